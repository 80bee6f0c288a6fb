import PyProof.Rows.All
import Wide.All
import OpenK.AllK
import Wide.FinOn
import HandS.ForMost
import HandS.Wide
import KE.KDictKeyed
import HandS.Lambda
import HandS.Exc
import HandS.ExcOwn
import HandS.TryOnly
import HandS.HotCalls
import HandS.IsInst
import HandS.Deep
import HandS.TupAny
import HandS.TupMul
import HandS.TupLe
import HandS.ExcInit
import HandS.SortInts
import HandS.Strs
import HandS.Text
import PyProof.CollectStr
import PyProof.Rows.IntBool
import KE.KExcStr
import HandS.Style
import HandS.RaiseMore
import PyProof.StrBlock
import HandS.Dict
import HandS.Iter
import KE.KDictList
import KE.KDictWalk
import HandS.Zip
import HandS.Comp
import HandS.TupSets
import KE.KNest
import HandS.Flow
import HandS.ExcIs
import HandS.Small
import KE.KSortTupG
import HandS.CallLocal
import KE.KExcIs
import HandS.ExcValue
import KE.KExcInit
import HandS.HeadHook4
import HandS.HeadWalk
import HandS.CallRecv
import HandS.Head2
import HandS.Head0
import HandS.Head1
import HandS.HeadEnd
import PyProof.StrBlockL
import PyProof.StrLawsChain
import PyProof.FitsInt
import PyProof.Rows.ReprOcc
import PyProof.Rows.RegReprOcc
import PySem.Challenge.RW_wagonlengths_k19_errors_and_their_classe
set_option Elab.async false
set_option linter.all false
set_option maxRecDepth 1000000
set_option maxHeartbeats 0
namespace Zt
open PySem
abbrev D := PyData
inductive Z where
 | d (x : D)
 | r (n : Nat)
 | f (n : Nat)
inductive MO where
 | lst (xs : List D)
 | frz (kvs : List (D × D))
 | dic (kvs : List (L2.Key × D))
 | dit (kvs : List (D × D))
 | ins (c : Nat) (fs : List (Str × Z))
abbrev Mem := List MO
structure Exn where
 c : Nat
 fs : List (Str × D)
inductive BOp where
 | add | sub | mul | fdiv | mod | pow
 deriving DecidableEq
inductive COp where
 | eq | ne | lt | le | gt | ge | inn | nin | is | isn
 deriving DecidableEq
inductive Bi where
 | len | tuple | list | sum | max | min | abs | int | str | bool | sorted | chars | sortedC | keys
 deriving DecidableEq
inductive Mt where
 | lower | upper | swapcase | split | join | count | index | append | pop
 deriving DecidableEq
inductive Ty where
 | int | str | bool | tuple | list
 deriving DecidableEq
inductive Tg where
 | nm (i : Nat)
 | tp (is : List Nat)
 deriving DecidableEq
def Tg.ids : Tg → List Nat
 | .nm i => [i]
 | .tp is => is
def Tg.many : Tg → Bool
 | .nm _ => false
 | .tp _ => true
mutual
inductive E where
 | v (i : Nat)
 | g (i : Nat)
 | kn
 | kb (b : Bool)
 | ki (i : Int)
 | ks (s : Str)
 | neg (a : E)
 | never
 | bin (op : BOp) (a b : E)
 | madd (a b : E)
 | cmp (op : COp) (a b : E)
 | chain (o1 o2 : COp) (a b c : E)
 | and (es : Es)
 | or (es : Es)
 | not (a : E)
 | ite (c : T) (a b : E)
 | tup (es : Es)
 | lst (es : Es)
 | mls (es : Es)
 | mdc (ks : List Str) (es : Es)
 | mdt
 | call (f : Nat) (es : Es)
 | callP (f : Nat) (es : Es)
 | bi (b : Bi) (es : Es)
 | isi (a : E) (t : Ty)
 | isx (i : Nat) (c : Nat)
 | isv (i : Nat)
 | mth (m : Mt) (o : E) (es : Es)
 | gidx (i : Nat) (e : E)
 | dget (o i w : E)
 | sub (o i : E)
 | slc (o : E) (lo hi : Eo)
 | rev (o : E)
 | lc (elt : E) (tg : Tg) (it : Iz) (cond : To) (own : List Nat)
 | lcR (elt : E) (tg : Tg) (it : E) (cond : To) (own : List Nat)
 | xat (i : Nat) (f : Str)
 | mkx (c : Nat) (e : E)
 | mki (c : Nat) (f : Str) (e : E)
 | atx (e : E) (f : Str)
 | clo (i : Nat) (es : Es)
 | callV (i : Nat) (fs : List Nat) (es : Es)
 | sset (a : E)
 | callL (f : Nat) (es : Es) (ps : List Nat) (body : E)
 | callW (f i : Nat) (es : Es)
 | callX (f i : Nat)
 | sln (i : Nat)
 | six (i : Nat) (e : E)
inductive Es where
 | nil
 | cons (e : E) (r : Es)
inductive T where
 | and (ts : Ts)
 | or (ts : Ts)
 | not (t : T)
 | cmp (op : COp) (a b : E)
 | chain (o1 o2 : COp) (a b c : E)
 | e (x : E)
inductive Ts where
 | nil
 | cons (t : T) (r : Ts)
inductive To where
 | no
 | so (t : T)
inductive Eo where
 | no
 | so (e : E)
inductive Iz where
 | it (e : E)
 | rng1 (e : E)
 | rng2 (a b : E)
 | zip (a b : E)
 | enum (a : E)
 | fns (is : List Nat)
end
mutual
inductive S where
 | asg (t : Tg) (e : E)
 | never
 | par (is : List Nat) (es : Es)
 | setI (o i e : E)
 | parN (is : List Nat) (es : Es)
 | ex (e : E)
 | ret (e : E)
 | ifs (c : T) (a b : Ss)
 | for (t : Tg) (it : Iz) (body : Ss)
 | forR (t : Tg) (e : E) (body : Ss)
 | forD (t : Tg) (i : Nat) (body : Ss)
 | asgL (i : Nat) (e : E)
 | asg2 (i : Nat) (elt : E) (tg : Tg) (it : Iz) (cond : To) (tg1 : Tg) (e1 : E) (cond1 : To) (own own1 : List Nat)
 | while (c : T) (body : Ss)
 | raise (c : Nat)
 | raiseI (c : Nat) (f : Str) (e : E)
 | try (body : Ss) (c : Nat) (nm : Option Nat) (suite : Ss)
 | pass
inductive Ss where
 | nil
 | cons (s : S) (r : Ss)
end
inductive Sl where
 | no
 | z (v : Z)
 | clo (ps : List Nat) (body : E) (cap : List (Option Z))
 | exc (e : Exn)
 | scr (ns : List Int)
abbrev Env := List Sl
inductive R (α : Type) where
 | ok (a : α) (M : Mem)
 | ex (e : Exn) (M : Mem)
 | bad
def R.bind {α β : Type} (x : R α) (f : α → Mem → R β) : R β := match x with
 | .ok a M => f a M
 | .ex e M => .ex e M
 | .bad => .bad
def R.of {α : Type} (o : Option α) (M : Mem) : R α := match o with
 | some a => .ok a M
 | none => .bad
inductive O where
 | nx (ρ : Env) (M : Mem)
 | rt (z : Z) (M : Mem)
 | ex (e : Exn) (ρ : Env) (M : Mem)
 | bad
def O.bind (x : O) (f : Env → Mem → O) : O := match x with
 | .nx ρ M => f ρ M
 | .rt z M => .rt z M
 | .ex e ρ M => .ex e ρ M
 | .bad => .bad
def dropx (ρ : Env) : Env := ρ.map fun s => match s with
 | .exc _ => .no
 | s => s
def O.noex (x : O) (nm : Option Nat) : O := match x with
 | .nx ρ M => .nx (match nm with
   | some i => (dropx ρ).set i .no
   | none => dropx ρ) M
 | .rt z M => .rt z M
 | .ex _ _ _ => .bad
 | .bad => .bad
def O.thaw (x : O) (n : Nat) (kvs : List (D × D)) : O := match x with
 | .nx ρ M => .nx ρ (M.set n (.dit kvs))
 | .rt z M => .rt z (M.set n (.dit kvs))
 | x => x
def R.st {α : Type} (x : R α) (ρ : Env) (f : α → Mem → O) : O := match x with
 | .ok a M => f a M
 | .ex e M => .ex e ρ M
 | .bad => .bad
structure Cfg where
 hot : Bool
 lv : Nat
 wf : Nat
 sub : Nat → Nat → Bool
 gv : List D
 fn : Bool → Nat → List Z → Mem → R Z
 fnW : Bool → Nat → Sl → List Z → Mem → R Z
 clo : List Nat → E → List (Option Z) → List Z → Mem → R Z
 fnL : Nat → List Z → List Nat → E → List (Option Z) → Mem → R Z
def Cfg.heat (C : Cfg) : Cfg := { C with hot := true }
def Bi.walks : Bi → Bool
 | .max | .min | .chars | .sortedC | .keys => true
 | _ => false
def slen : Nat := 1000000
def llen : Nat := 16000000
abbrev okD (d : D) : Bool := SeqAt.shaped d
def bop : BOp → D → D → Option D
 | .add, .bool b, .int j => some (.int ((if b = true then 1 else 0) + j))
 | .add, .int i, .int j => some (.int (i + j))
 | .add, .str x, .str y => if x.length + y.length ≤ slen then some (.str (x ++ y)) else none
 | .add, .list x, .list y => if x.length + y.length ≤ llen then some (.list (x ++ y)) else none
 | .add, .tuple x, .tuple y => if x.length + y.length ≤ llen then some (.tuple (x ++ y)) else none
 | .sub, .bool b, .int j => some (.int ((if b = true then 1 else 0) - j))
 | .sub, .int i, .int j => some (.int (i - j))
 | .mul, .int i, .bool b => some (.int (i * (if b = true then 1 else 0)))
 | .mul, .int i, .int j => if i.natAbs.log2 + j.natAbs.log2 < 100000000 then some (.int (i * j)) else none
 | .mul, .str x, .int j => if 2 ≤ j ∧ j ≤ 1000 ∧ x.length ≤ 100 then some (.str (Txt.mul x j)) else none
 | .mul, .list x, .int j => if 0 ≤ j ∧ j ≤ slen ∧ x.length * j.toNat ≤ slen then some (.list (List.replicate j.toNat x).flatten) else none
 | .mul, .tuple x, .int j => if x.isEmpty = false ∧ 2 ≤ j ∧ j ≤ 1000 ∧ x.length ≤ 1000 then some (.tuple (List.replicate j.toNat x).flatten) else none
 | .fdiv, .int i, .int j => if 0 < j ∧ j.natAbs.log2 < 9000 then some (.int (i / j)) else none
 | .mod, .int i, .int j => if 0 < j then some (.int (i % j)) else none
 | .pow, .int i, .int j => if 0 ≤ j ∧ j ≤ 1000000 ∧ i.natAbs < 2 ^ 64 then some (.int (i ^ j.toNat)) else none
 | _, _, _ => none
def flatD : D → Bool
 | .none | .bool _ | .int _ | .str _ => true
 | _ => false
def inD (x : D) (xs : List D) : Bool := xs.any fun y => PyData.eqv y x
def strLt (x y : Str) : Bool := decide (x.cps.toList < y.cps.toList)
def cop : COp → D → D → Option Bool
 | .eq, a, b => if okD a && okD b then some (PyData.eqv a b) else none
 | .ne, a, b => if okD a && okD b then some (!PyData.eqv a b) else none
 | .lt, .int i, .int j => some (decide (i < j))
 | .le, .int i, .int j => some (decide (i ≤ j))
 | .gt, .int i, .int j => some (decide (j < i))
 | .ge, .int i, .int j => some (decide (j ≤ i))
 | .lt, .str x, .str y => some (strLt x y)
 | .gt, .str x, .str y => some (strLt y x)
 | .inn, x, .list ys => if flatD x && ys.all flatD then some (inD x ys) else if okD x && okD (.list ys) then some (inD x ys) else none
 | .nin, x, .list ys => if flatD x && ys.all flatD then some (!inD x ys) else if okD x && okD (.list ys) then some (!inD x ys) else none
 | .inn, x, .tuple ys => if flatD x && ys.all flatD then some (inD x ys) else if okD x && okD (.tuple ys) then some (inD x ys) else none
 | .nin, x, .tuple ys => if flatD x && ys.all flatD then some (!inD x ys) else if okD x && okD (.tuple ys) then some (!inD x ys) else none
 | .inn, .str x, .str y => some (Txt.contains y x)
 | .nin, .str x, .str y => some (!Txt.contains y x)
 | .is, .bool a, .bool b => some (decide (a = b))
 | .is, .none, .none => some true
 | .is, .none, .bool _ => some false
 | .is, .none, _ => none
 | .is, _, .none => some false
 | .isn, .none, .none => some false
 | .isn, .none, _ => none
 | .isn, _, .none => some true
 | _, _, _ => none
def truth : D → Option Bool
 | .none => some false
 | .bool b => some b
 | .int i => some (i != 0)
 | .str x => if x.length ≤ slen then some (x.length != 0) else none
 | .list x => some (!x.isEmpty)
 | .tuple x => some (!x.isEmpty)
 | .dict _ => none
def itemD : D → Int → Option D
 | .list xs, i => L2.atI xs i
 | .tuple xs, i => L2.atI xs i
 | .str x, i => if x.length ≤ slen then (L2.atI x.cps.toList i).map fun c => .str ⟨#[c]⟩ else none
 | _, _ => none
def cut {α : Type} (xs : List α) (lo hi : Option Int) : List α :=
 (xs.drop (HT.sIx xs.length 0 lo)).take (HT.sIx xs.length xs.length hi - HT.sIx xs.length 0 lo)
def slcD : D → Option Int → Option Int → Option D
 | .list xs, lo, hi => some (.list (cut xs lo hi))
 | .tuple xs, lo, hi => some (.tuple (cut xs lo hi))
 | .str x, lo, hi => if x.length ≤ slen then some (.str (L2.cutS x lo hi)) else none
 | _, _, _ => none
def revD : D → Option D
 | .list xs => some (.list xs.reverse)
 | .tuple xs => some (.tuple xs.reverse)
 | .str x => if x.length ≤ slen then some (.str ⟨x.cps.toList.reverse.toArray⟩) else none
 | _ => none
def intsOf : List D → Option (List Int)
 | [] => some []
 | .int i :: r => (intsOf r).map (i :: ·)
 | _ :: _ => none
def strsOf : List D → Option (List Str)
 | [] => some []
 | .str i :: r => (strsOf r).map (i :: ·)
 | _ :: _ => none
def tupsOf : List D → Option (List (List Int))
 | [] => some []
 | .tuple xs :: r => match intsOf xs, tupsOf r with
   | some ns, some nss => some (ns :: nss)
   | _, _ => none
 | _ :: _ => none
def insI (x : Int) : List Int → List Int
 | [] => [x]
 | y :: r => if x ≤ y then x :: y :: r else y :: insI x r
def sortI (l : List Int) : List Int := l.foldr insI []
def insS (x : Str) : List Str → List Str
 | [] => [x]
 | y :: r => if strLt y x then y :: insS x r else x :: y :: r
def sortS (l : List Str) : List Str := l.foldr insS []
def txsOf : List D → Option (List (List Str))
 | [] => some []
 | .tuple xs :: r => match strsOf xs, txsOf r with
   | some ss, some tss => some (ss :: tss)
   | _, _ => none
 | _ :: _ => none
def once {α : Type} [DecidableEq α] : List α → List α
 | [] => []
 | x :: r => if x ∈ r then once r else x :: once r
def ltX : List Str → List Str → Bool
 | [], [] => false
 | [], _ :: _ => true
 | _ :: _, [] => false
 | x :: r, y :: t => strLt x y || (!strLt y x && ltX r t)
def insX (x : List Str) : List (List Str) → List (List Str)
 | [] => [x]
 | y :: r => if ltX y x then y :: insX x r else x :: y :: r
def sortX (l : List (List Str)) : List (List Str) := l.foldr insX []
def seqOf : D → Option (List D)
 | .list xs => some xs
 | .tuple xs => some xs
 | _ => none
def signsOf (x : Str) : List D := x.cps.toList.map fun c => .str ⟨#[c]⟩
def tyOk : D → Ty → Bool
 | .bool _, .bool => true
 | .bool _, .int => true
 | .int _, .int => true
 | .str _, .str => true
 | .tuple _, .tuple => true
 | .list _, .list => true
 | _, _ => false
def tyKnown : D → Bool
 | .dict _ => false
 | _ => true
def maxI : List Int → Option Int
 | [] => none
 | x :: r => some (r.foldl max x)
def cdP (B : Int) : Nat → List Int → Int
 | _, [] => 0
 | 0, _ :: _ => 0
 | n + 1, p :: ns => (p + 1) * B ^ n + cdP B n ns
def insT (x : List Int) : List (List Int) → List (List Int)
 | [] => [x]
 | y :: r => if cdP 1048576 60 x ≤ cdP 1048576 60 y then x :: y :: r else y :: insT x r
def sortT : List (List Int) → List (List Int)
 | [] => []
 | x :: r => insT x (sortT r)
def okT (nss : List (List Int)) : Bool := nss.all fun ns => decide (1 ≤ ns.length) && decide (ns.length ≤ 60) && ns.all fun i => decide (0 ≤ i) && decide (i + 1 < 1048576)
def minI : List Int → Option Int
 | [] => none
 | x :: r => some (r.foldl min x)
def erD (c : Nat) (x : Str) : D := .dict [(.int (.ofNat c), .str x)]
def erI (c : Nat) (f : Str) (d : D) : D := .dict [(.int (.ofNat c), .none), (.str f, d)]
def clsD : D → Option Nat
 | .dict ((.int (.ofNat c), _) :: _) => some c
 | _ => none
def fldD (f : Str) : D → Option D
 | .dict [(.int (.ofNat _), .none), (.str g, d)] => if g = f then some d else none
 | _ => none
def bid : Bi → List D → Option D
 | .len, [.list xs] => some (.int xs.length)
 | .len, [.tuple xs] => some (.int xs.length)
 | .len, [.str x] => if x.length ≤ slen then some (.int x.length) else none
 | .tuple, [.list xs] => some (.tuple xs)
 | .tuple, [.tuple xs] => some (.tuple xs)
 | .list, [.list xs] => some (.list xs)
 | .list, [.tuple xs] => some (.list xs)
 | .sum, [.list xs] => (intsOf xs).map fun ns => .int ns.sum
 | .max, [.list xs] => ((intsOf xs).bind maxI).map .int
 | .min, [.list xs] => ((intsOf xs).bind minI).map .int
 | .max, [.int i, .int j] => some (.int (if j > i then j else i))
 | .min, [.int i, .int j] => some (.int (if j < i then j else i))
 | .abs, [.int i] => some (.int (if i < 0 then -i else i))
 | .int, [.int i] => some (.int i)
 | .int, [.bool b] => some (.int (if b then 1 else 0))
 | .int, [.str x] => if x.length ≤ 640 then (intText? x).map .int else none
 | .str, [.int i] => if i.natAbs.log2 < 1920 then some (.str (toString i)) else none
 | .str, [.str x] => some (.str x)
 | .str, [.dict [(.int (.ofNat _), .str x)]] => some (.str x)
 | .str, [.bool b] => some (.str (if b then "True" else "False"))
 | .bool, [.bool b] => some (.bool b)
 | .bool, [.int i] => some (.bool (i != 0))
 | .sorted, [.list xs] => match intsOf xs with
   | some ns => some (.list ((sortI ns).map .int))
   | none => match strsOf xs with
     | some ss => if ss.length < 64 then some (.list ((sortS ss).map .str)) else none
     | none => match tupsOf xs with
       | some nss => if nss.length < 64 && (decide (nss.length < 2) || okT nss) then some (.list ((sortT nss).map fun ns => .tuple (ns.map .int))) else none
       | none => none
 | .chars, [.str x] => if x.length ≤ slen then some (.list (signsOf x)) else none
 | .sortedC, [.str x] => if x.length < 64 then some (.list ((sortS (x.cps.toList.map fun c => (⟨#[c]⟩ : Str))).map .str)) else none
 | _, _ => none
def ssetD (xs : List D) : Option (List D) := match strsOf xs with
 | some ss => if ss.length < 64 then some ((sortS (once ss)).map .str) else none
 | none => match txsOf xs with
   | some tss => if tss.length < 64 && tss.all (fun t => !t.isEmpty) then some ((sortX (once tss)).map fun t => .tuple (t.map .str)) else none
   | none => none
def mtd : Mt → D → List D → Option D
 | .lower, .str x, [] => if x.length ≤ slen then some (.str (Txt.lower x)) else none
 | .upper, .str x, [] => if x.length ≤ slen then some (.str (Txt.upper x)) else none
 | .swapcase, .str x, [] => if x.length ≤ slen then some (.str (Txt.swapcase x)) else none
 | .split, .str x, [.str y] => if (y.length == 0) = false ∧ x.length ≤ slen then some (.list ((Txt.split x y).map .str)) else none
 | .join, .str x, [.list ys] => (strsOf ys).bind fun ss => if (ss.map (·.length)).sum + ss.length * x.length ≤ slen then some (.str (Txt.join x ss)) else none
 | .count, .str x, [.str y] => some (.int (Txt.count x y))
 | .index, .tuple ys, [.str z] => (strsOf ys).bind fun ss => (ss.findIdx? fun y => decide (y = z)).map fun j => .int (j : Nat)
 | _, _, _ => none
def keyOf : D → Option L2.Key
 | .int i => some (.inl i)
 | .str s => some (.inr s)
 | _ => none
def keysOf : List D → Option (List L2.Key)
 | [] => some []
 | d :: r => (keyOf d).bind fun k => (keysOf r).map (k :: ·)
def lookK {κ : Type} [DecidableEq κ] (kvs : List (κ × D)) (k : κ) : Option D := (kvs.find? fun kv => decide (kv.1 = k)).map (·.2)
def putD {κ : Type} [DecidableEq κ] (kvs : List (κ × D)) (k : κ) (d : D) : List (κ × D) :=
 if (kvs.any fun kv => decide (kv.1 = k)) = true then kvs.map (fun kv => if kv.1 = k then (kv.1, d) else kv) else kvs ++ [(k, d)]
def isStrD : D → Bool
 | .str _ => true
 | _ => false
def keyN : D → Option NestedKey
 | .none => some .none
 | .bool b => some (.num (if b then 1 else 0))
 | .int i => some (.num i)
 | .str x => some (.text x)
 | .tuple ds => (keyNs ds).map .tup
 | _ => none
where keyNs : List D → Option (List NestedKey)
 | [] => some []
 | d :: ds => (keyN d).bind fun k => (keyNs ds).map (k :: ·)
def tupKey : D → Option NestedKey
 | .tuple ds => (keyN (.tuple ds)).bind fun k => if k.depth ≤ 8 then some k else none
 | _ => none
def lookN (kvs : List (D × D)) (k : NestedKey) : Option D := (kvs.find? fun kv => decide (keyN kv.1 = some k)).map (·.2)
def putN (kvs : List (D × D)) (w : D) (k : NestedKey) (d : D) : List (D × D) :=
 if (kvs.any fun kv => decide (keyN kv.1 = some k)) = true then kvs.map (fun kv => if keyN kv.1 = some k then (kv.1, d) else kv) else kvs ++ [(w, d)]
def getL (M : Mem) (n : Nat) : Option (List D) := match M[n]? with
 | some (.lst xs) => some xs
 | _ => none
def R.own (x : R Z) (M : Mem) : R Z := match x with
 | .ok (.d v) _ => .ok (.d v) M
 | .ok (.r n) M' => match getL M' n with
   | some xs => .ok (.d (.list xs)) M
   | none => .bad
 | .ok (.f _) _ => .bad
 | .ex e _ => .ex e M
 | .bad => .bad
def slZ : Sl → Option Z
 | .z v => some v
 | _ => none
def getZ (ρ : Env) (i : Nat) : Option Z := (ρ[i]?).bind slZ
def wipeE (ρ : Env) : List Nat → Env
 | [] => ρ
 | v :: vs => (wipeE ρ vs).set v .no
def setAll : Env → List Nat → List D → Option Env
 | ρ, [], [] => some ρ
 | ρ, i :: is, d :: ds => setAll (ρ.set i (.z (.d d))) is ds
 | _, _, _ => none
def setZ : Env → List Nat → List Z → Env
 | ρ, i :: is, z :: zs => setZ (ρ.set i (.z z)) is zs
 | ρ, _, _ => ρ
def bindT : Tg → Env → Z → Option Env
 | .nm i, ρ, z => some (ρ.set i (.z z))
 | .tp is, ρ, .d (.tuple ds) => if ds.length = is.length then setAll ρ is ds else none
 | _, _, _ => none
def dOf : Z → Option D
 | .d x => some x
 | _ => none
def dsOf : List Z → Option (List D)
 | [] => some []
 | .d x :: r => (dsOf r).map (x :: ·)
 | _ :: _ => none
def truthZ : Z → Mem → Option Bool
 | .d x, _ => truth x
 | .r n, M => match M[n]? with
   | some (.lst xs) => some (!xs.isEmpty)
   | _ => none
 | .f _, _ => none
def itemsOf : Z → Option (List Z)
 | .d (.list xs) => some (xs.map .d)
 | .d (.tuple xs) => some (xs.map .d)
 | .d (.str x) => some ((signsOf x).map .d)
 | _ => none
def itH (h : Bool) (x : Z) : Option (List Z) := match h, x with
 | true, .d (.str _) => none
 | _, x => itemsOf x
def rngZ (lo hi : Int) : List Z := (List.range (hi - lo).toNat).map fun (k : Nat) => Z.d (.int (lo + (k : Int)))
def zipZ (xs ys : List D) : List Z := (xs.zip ys).map fun p => .d (.tuple [p.1, p.2])
def enumZ (k : Nat) : List D → List Z
 | [] => []
 | x :: r => .d (.tuple [.int k, x]) :: enumZ (k + 1) r
def capOf (ρ : Env) : List (Option Z) := ρ.map slZ
def lcL (cond : Env → Mem → R Bool) (elt : Env → Mem → R Z) (tg : Tg) (ρ : Env) : List Z → Mem → R (List D)
 | [], M => .ok [] M
 | z :: zs, M => match bindT tg ρ z with
   | none => .bad
   | some ρ1 => (cond ρ1 M).bind fun b M1 =>
     if b then (elt ρ1 M1).bind fun y M2 => match y with
       | .d d => (lcL cond elt tg ρ zs M2).bind fun ds M3 => .ok (d :: ds) M3
       | _ => .bad
     else lcL cond elt tg ρ zs M1
def lcRL (cond : Env → Mem → R Bool) (elt : Env → Mem → R Z) (tg : Tg) (n : Nat) (ρ : Env) : Nat → Nat → Mem → R (List D)
 | 0, _, _ => .bad
 | f + 1, i, M => match getL M n with
   | none => .bad
   | some ds => match ds[i]? with
     | none => .ok [] M
     | some d => match bindT tg ρ (.d d) with
       | none => .bad
       | some ρ1 => (cond ρ1 M).bind fun b M1 =>
         if b then (elt ρ1 M1).bind fun y M2 => match y with
           | .d d => (lcRL cond elt tg n ρ f (i + 1) M2).bind fun ds M3 => .ok (d :: ds) M3
           | _ => .bad
         else lcRL cond elt tg n ρ f (i + 1) M1
def rngS (f : Env → Mem → R Z) : Env → Mem → R (List Z) := fun ρ M => (f ρ M).bind fun x M1 => match x with
 | .d (.int i) => if i < 2 ^ 62 ∧ -(2 ^ 62) ≤ i then .ok (rngZ 0 i) M1 else .bad
 | _ => .bad
def lcL2 (cond : Env → Mem → R Bool) (src : Env → Mem → R (List Z)) (inner : Env → List Z → Mem → R (List D)) (tg : Tg) (ρ : Env) : List Z → Mem → R (List D)
 | [], M => .ok [] M
 | z :: zs, M => match bindT tg ρ z with
   | none => .bad
   | some ρ1 => (cond ρ1 M).bind fun b M1 =>
     if b then (src ρ1 M1).bind fun zs1 M2 => if zs1.length ≤ 4000 then (inner ρ1 zs1 M2).bind fun ds M3 => (lcL2 cond src inner tg ρ zs M3).bind fun es M4 => .ok (ds ++ es) M4 else .bad
     else lcL2 cond src inner tg ρ zs M1
def forL (body : Env → Mem → O) (tg : Tg) : List Z → Env → Mem → O
 | [], ρ, M => .nx ρ M
 | z :: zs, ρ, M => match bindT tg ρ z with
   | none => .bad
   | some ρ1 => (body ρ1 M).bind fun ρ2 M2 => forL body tg zs ρ2 M2
def forRL (body : Env → Mem → O) (t : Tg) (n : Nat) : Nat → Nat → Env → Mem → O
 | 0, _, _, _ => .bad
 | k + 1, i, ρ, M => match getL M n with
   | some ds => match ds[i]? with
     | some d => match bindT t ρ (.d d) with
       | some ρ1 => (body ρ1 M).bind fun ρ2 M2 => forRL body t n k (i + 1) ρ2 M2
       | none => .bad
     | none => .nx ρ M
   | none => .bad
def whL (c : Env → Mem → R Bool) (body : Env → Mem → O) : Nat → Env → Mem → O
 | 0, _, _ => .bad
 | n + 1, ρ, M => (c ρ M).st ρ fun b M1 => if b then (body ρ M1).bind fun ρ2 M2 => whL c body n ρ2 M2 else .nx ρ M1
def R.calm {α : Type} (x : R α) : R α := match x with
 | .ex _ _ => .bad
 | y => y
def lsZ (M : Mem) : Z → Option (List D)
 | .d (.list xs) => some xs
 | .r n => getL M n
 | _ => none
def opz (op : BOp) (x y : Z) (M : Mem) : R Z := match x, y with
 | .d a, .d b => R.of ((bop op a b).map .d) M
 | x, y => if op = .add then match lsZ M x, lsZ M y with
     | some xs, some ys => if xs.length + ys.length ≤ slen then .ok (.d (.list (xs ++ ys))) M else .bad
     | _, _ => .bad
   else .bad
def adz (x y : Z) (M : Mem) : R Z := match lsZ M x, lsZ M y with
 | some xs, some ys => if xs.length + ys.length ≤ slen then .ok (.r M.length) (M ++ [.lst (xs ++ ys)]) else .bad
 | _, _ => .bad
def daZ (M : Mem) : Z → Option D
 | .d a => some a
 | .r n => (getL M n).map .list
 | .f _ => none
def cpz (op : COp) (x y : Z) (M : Mem) : R Bool := match x, y with
 | .d a, .d b => R.of (cop op a b) M
 | x, y => if op = .eq ∨ op = .ne then R.of ((daZ M x).bind fun a => (daZ M y).bind fun b => cop op a b) M else .bad
def biz (b : Bi) (zs : List Z) (M : Mem) : R Z := match zs with
 | [.r n] => match b, M[n]? with
   | .len, some (.lst xs) => .ok (.d (.int xs.length)) M
   | .list, some (.lst xs) => .ok (.d (.list xs)) M
   | .keys, some (.dit kvs) => .ok (.d (.list (kvs.map (·.1)))) M
   | .tuple, some (.lst xs) => .ok (.d (.tuple xs)) M
   | .sorted, some (.lst xs) => R.of ((bid .sorted [.list xs]).map .d) M
   | _, _ => .bad
 | zs => R.of (((dsOf zs).bind (bid b)).map .d) M
def isz (t : Ty) (x : Z) (M : Mem) : R Z := match x with
 | .d d => if tyKnown d then .ok (.d (.bool (tyOk d t))) M else .bad
 | .r n => match M[n]? with
   | some (.lst _) => .ok (.d (.bool (decide (t = .list)))) M
   | _ => .bad
 | .f _ => .bad
def rcv (m : Mt) (x : Z) (M : Mem) : Bool := match m, x with
 | .append, .r n => match M[n]? with
   | some (.lst _) => true
   | _ => false
 | .pop, .r n => match M[n]? with
   | some (.lst _) => true
   | _ => false
 | .lower, .d (.str _) | .upper, .d (.str _) | .swapcase, .d (.str _) | .split, .d (.str _) | .join, .d (.str _) | .count, .d (.str _) => true
 | _, _ => false
def mtz (m : Mt) (x : Z) (zs : List Z) (M : Mem) : R Z := match x with
 | .d d => match m, zs with
   | .join, [.r n] => R.of (((getL M n).bind fun xs => mtd .join d [.list xs]).map .d) M
   | _, _ => R.of (((dsOf zs).bind (mtd m d)).map .d) M
 | .r n => match m, zs with
   | .append, [.d y] => match getL M n with
     | some l => if l.length < llen then .ok (.d .none) (M.set n (.lst (l ++ [y]))) else .bad
     | none => .bad
   | .pop, [] => match getL M n with
     | some l => match l[l.length - 1]? with
       | some d => .ok (.d d) (M.set n (.lst l.dropLast))
       | none => .bad
     | none => .bad
   | _, _ => .bad
 | .f _ => .bad
def subz (x y : Z) (M : Mem) : R Z := match x, y with
 | .d d, .d (.int j) => R.of ((itemD d j).map .d) M
 | .r n, .d y => match M[n]? with
   | some (.lst xs) => match y with
     | .int j => R.of ((itemD (.list xs) j).map .d) M
     | _ => .bad
   | some (.frz kvs) => R.of (((tupKey y).bind (lookN kvs)).map .d) M
   | some (.dic kvs) => R.of (((keyOf y).bind (lookK kvs)).map .d) M
   | some (.dit kvs) => R.of (((tupKey y).bind (lookN kvs)).map .d) M
   | _ => .bad
 | _, _ => .bad
def isDit (x : Z) (M : Mem) : Bool := match x with
 | .r n => match M[n]? with
   | some (.dit _) => true
   | _ => false
 | _ => false
def getz (x y w : Z) (M : Mem) : R Z := match x, y, w with
 | .r n, .d y, .d w => match M[n]? with
   | some (.dit kvs) => R.of ((tupKey y).map fun k => .d ((lookN kvs k).getD w)) M
   | _ => .bad
 | _, _, _ => .bad
def slz (x : Z) (a b : Option Int) (M : Mem) : R Z := match x with
 | .d d => R.of ((slcD d a b).map .d) M
 | _ => .bad
def boolZ (b : Bool) : Z := .d (.bool b)
def asB (z : Z) (M : Mem) : R Bool := match z with
 | .d (.bool b) => .ok b M
 | _ => .bad
def bindArgs0 (ps : List Nat) (ρ : Env) (zs : List Z) : Option Env := match ps, zs with
 | [], [] => some ρ
 | i :: is, z :: r => bindArgs0 is (ρ.set i (.z z)) r
 | _, _ => none
def ofCap (cap : List (Option Z)) : Env := cap.map fun o => match o with
 | some z => .z z
 | none => .no
def putZ (ρ : Env) (M : Mem) (n : Nat) (w d : D) : O := match M[n]? with
 | some (.lst xs) => match w with
   | .int j => match L2.ixN xs.length j with
     | some k => .nx ρ (M.set n (.lst (xs.set k d)))
     | none => .bad
   | _ => .bad
 | some (.dic kvs) => match keyOf w with
   | some k => if kvs.length < slen then .nx ρ (M.set n (.dic (putD kvs k d))) else .bad
   | none => .bad
 | some (.dit kvs) => match tupKey w with
   | some k => if kvs.length < llen then .nx ρ (M.set n (.dit (putN kvs w k d))) else .bad
   | none => .bad
 | _ => .bad
mutual
def evE (C : Cfg) : E → Env → Mem → R Z
 | .v i, ρ, M => R.of (getZ ρ i) M
 | .g i, _, M => R.of ((C.gv[i]?).map .d) M
 | .kn, _, M => .ok (.d .none) M
 | .kb b, _, M => .ok (.d (.bool b)) M
 | .ki i, _, M => .ok (.d (.int i)) M
 | .ks s, _, M => .ok (.d (.str s)) M
 | .neg a, ρ, M => (evE C a ρ M).bind fun x M1 => match x with
   | .d (.int i) => .ok (.d (.int (-i))) M1
   | _ => .bad
 | .bin op a b, ρ, M => (evE C a ρ M).bind fun x M1 => (evE C b ρ M1).bind fun y M2 => opz op x y M2
 | .never, _, _ => .bad
 | .madd a b, ρ, M => (evE C a ρ M).bind fun x M1 => (evE C b ρ M1).bind fun y M2 => adz x y M2
 | .cmp op a b, ρ, M => (evE C a ρ M).bind fun x M1 => (evE C b ρ M1).bind fun y M2 => (cpz op x y M2).bind fun k M3 => .ok (boolZ k) M3
 | .chain o1 o2 a b c, ρ, M => (evE C a ρ M).bind fun x M1 => (evE C b ρ M1).bind fun y M2 => (cpz o1 x y M2).bind fun k M3 =>
     if k then (evE C c ρ M3).bind fun z M4 => (cpz o2 y z M4).bind fun k2 M5 => .ok (boolZ k2) M5 else .ok (boolZ false) M3
 | .and es, ρ, M => evAnd C es ρ M
 | .or es, ρ, M => evOr C es ρ M
 | .not a, ρ, M => (evE C a ρ M).bind fun x M1 => R.of ((truthZ x M1).map fun b => boolZ (!b)) M1
 | .ite c a b, ρ, M => (evT C c ρ M).bind fun k M1 => if k then evE C a ρ M1 else evE C b ρ M1
 | .tup es, ρ, M => (evEs C es ρ M).bind fun zs M1 => R.of ((dsOf zs).map fun ds => .d (.tuple ds)) M1
 | .lst es, ρ, M => (evEs C es ρ M).bind fun zs M1 => R.of ((dsOf zs).map fun ds => .d (.list ds)) M1
 | .mls es, ρ, M => (evEs C es ρ M).bind fun zs M1 => match dsOf zs with
   | some ds => .ok (.r M1.length) (M1 ++ [.lst ds])
   | none => .bad
 | .mdc ks es, ρ, M => (evEs C es ρ M).bind fun zs M1 => match dsOf zs with
   | some ds => .ok (.r M1.length) (M1 ++ [.dic ((ks.map Sum.inr).zip ds)])
   | none => .bad
 | .mdt, _, M => .ok (.r M.length) (M ++ [.dit []])
 | .call f es, ρ, M => (evEs C es ρ M).bind fun zs M1 => C.fn C.hot f zs M1
 | .callP f es, ρ, M => (evEs C es ρ M).bind fun zs M1 => match dsOf zs with
   | some ds => (C.fn C.hot f (ds.map .d) []).own M1
   | none => .bad
 | .bi b es, ρ, M => if C.hot && b.walks then .bad else (evEs C es ρ M).bind fun zs M1 => biz b zs M1
 | .isi a t, ρ, M => (evE C a ρ M).bind fun x M1 => isz t x M1
 | .isx i c, ρ, M => match ρ[i]? with
   | some (.exc e) => if e.fs.isEmpty then .ok (boolZ (C.sub e.c c)) M else .bad
   | some (.z (.d x)) => match clsD x with
     | some c0 => .ok (boolZ (C.sub c0 c)) M
     | none => .bad
   | _ => .bad
 | .isv i, ρ, M => match ρ[i]? with
   | some (.exc e) => if e.fs.isEmpty then .ok (boolZ (C.sub e.c 1000)) M else .bad
   | some (.z (.d x)) => match clsD x with
     | some c0 => .ok (boolZ (C.sub c0 1000)) M
     | none => .bad
   | _ => .bad
 | .mth m o es, ρ, M => (evE C o ρ M).bind fun x M1 => if rcv m x M1 then (evEs C es ρ M1).bind fun zs M2 => mtz m x zs M2 else .bad
 | .gidx i e, ρ, M => match C.gv[i]? with
   | some (.tuple ds) => (evE C e ρ M).bind fun u M1 => R.of (((dOf u).bind fun y => mtd .index (.tuple ds) [y]).map .d) M1
   | _ => .bad
 | .dget o i w, ρ, M => (evE C o ρ M).bind fun x M1 => if isDit x M1 then (evE C i ρ M1).bind fun y M2 => (evE C w ρ M2).bind fun z M3 => getz x y z M3 else .bad
 | .sub o i, ρ, M => (evE C o ρ M).bind fun x M1 => (evE C i ρ M1).bind fun y M2 => subz x y M2
 | .slc o lo hi, ρ, M => (evE C o ρ M).bind fun x M1 => (evO C lo ρ M1).bind fun a M2 => (evO C hi ρ M2).bind fun b M3 => slz x a b M3
 | .rev o, ρ, M => (evE C o ρ M).bind fun x M1 => match x with
   | .d d => R.of ((revD d).map .d) M1
   | _ => .bad
 | .lc elt tg it cond own, ρ, M => (evI C it ρ M).bind fun zs M1 => if zs.length ≤ llen then
     ((lcL (fun ρ' M' => evC C cond ρ' M') (fun ρ' M' => evE C elt ρ' M') tg (wipeE ρ own) zs M1).calm).bind fun ds M2 => .ok (.d (.list ds)) M2 else .bad
 | .lcR elt tg it cond own, ρ, M => (evE C it ρ M).bind fun z M1 => match z with
   | .r n => match getL M1 n with
     | some ds => if ds.length ≤ llen then ((lcRL (fun ρ' M' => evC C cond ρ' M') (fun ρ' M' => evE C elt ρ' M') tg n (wipeE ρ own) (ds.length + 1) 0 M1).calm).bind fun ds M2 => .ok (.d (.list ds)) M2 else .bad
     | none => .bad
   | _ => .bad
 | .xat i f, ρ, M => match ρ[i]? with
   | some (.exc e) => R.of ((e.fs.lookup f).map .d) M
   | _ => .bad
 | .mkx c e, ρ, M => if C.hot then .bad else (evE C e ρ M).bind fun z M1 => match z with
   | .d (.str x) => .ok (.d (erD c x)) M1
   | _ => .bad
 | .mki c f e, ρ, M => if C.hot || decide (C.lv < 2) then .bad else (evE C e ρ M).bind fun z M1 => match z with
   | .d d => .ok (.d (erI c f d)) M1
   | _ => .bad
 | .atx e f, ρ, M => if C.hot then .bad else (evE C e ρ M).bind fun z M1 => match z with
   | .d d => R.of ((fldD f d).map .d) M1
   | _ => .bad
 | .clo i es, ρ, M => if C.hot then .bad else match ρ[i]? with
   | some (.clo ps body cap) => (evEs C es ρ M).bind fun zs M1 => C.clo ps body cap zs M1
   | _ => .bad
 | .callV i fs es, ρ, M => if C.hot then .bad else match ρ[i]? with
   | some (.z (.f n)) => if fs.contains n then (evEs C es ρ M).bind fun zs M1 => C.fn C.hot n zs M1 else .bad
   | _ => .bad
 | .sset a, ρ, M => if C.hot then .bad else (evE C a ρ M).bind fun x M1 => match x with
   | .d (.list xs) => R.of ((ssetD xs).map fun ys => .d (.list ys)) M1
   | _ => .bad
 | .callW f i es, ρ, M => match ρ[i]? with
   | some (.scr ns) => (evEs C es ρ M).bind fun zs M1 => C.fnW C.hot f (.scr ns) zs M1
   | _ => .bad
 | .callX f i, ρ, M => match ρ[i]? with
   | some (.exc e) => if C.hot then C.fnW true f (.exc e) [] M else .bad
   | _ => .bad
 | .sln i, ρ, M => match ρ[i]? with
   | some (.scr ns) => .ok (.d (.int ns.length)) M
   | _ => .bad
 | .six i e, ρ, M => match ρ[i]? with
   | some (.scr ns) => (evE C e ρ M).bind fun y M1 => match y with
     | .d (.int j) => R.of ((L2.atI ns j).map fun n => .d (.int n)) M1
     | _ => .bad
   | _ => .bad
 | .callL f es ps body, ρ, M => if C.hot then .bad else (evEs C es ρ M).bind fun zs M1 => C.fnL f zs ps body (capOf ρ) M1
def evEs (C : Cfg) : Es → Env → Mem → R (List Z)
 | .nil, _, M => .ok [] M
 | .cons e r, ρ, M => (evE C e ρ M).bind fun x M1 => (evEs C r ρ M1).bind fun xs M2 => .ok (x :: xs) M2
def evAnd (C : Cfg) : Es → Env → Mem → R Z
 | .nil, _, _ => .bad
 | .cons e .nil, ρ, M => evE C e ρ M
 | .cons e r, ρ, M => (evE C e ρ M).bind fun x M1 => (asB x M1).bind fun b M2 => if b then evAnd C r ρ M2 else .ok (boolZ false) M2
def evOr (C : Cfg) : Es → Env → Mem → R Z
 | .nil, _, _ => .bad
 | .cons e .nil, ρ, M => evE C e ρ M
 | .cons e r, ρ, M => (evE C e ρ M).bind fun x M1 => (asB x M1).bind fun b M2 => if b then .ok (boolZ true) M2 else evOr C r ρ M2
def evT (C : Cfg) : T → Env → Mem → R Bool
 | .and ts, ρ, M => evTA C ts ρ M
 | .or ts, ρ, M => evTO C ts ρ M
 | .not a, ρ, M => (evT C a ρ M).bind fun b M1 => .ok (!b) M1
 | .cmp op a b, ρ, M => (evE C a ρ M).bind fun x M1 => (evE C b ρ M1).bind fun y M2 => cpz op x y M2
 | .chain o1 o2 a b c, ρ, M => (evE C a ρ M).bind fun x M1 => (evE C b ρ M1).bind fun y M2 => (cpz o1 x y M2).bind fun k M3 =>
     if k then (evE C c ρ M3).bind fun z M4 => cpz o2 y z M4 else .ok false M3
 | .e e, ρ, M => (evE C e ρ M).bind fun x M1 => R.of (truthZ x M1) M1
def evTA (C : Cfg) : Ts → Env → Mem → R Bool
 | .nil, _, M => .ok true M
 | .cons e r, ρ, M => (evT C e ρ M).bind fun b M1 => if b then evTA C r ρ M1 else .ok false M1
def evTO (C : Cfg) : Ts → Env → Mem → R Bool
 | .nil, _, M => .ok false M
 | .cons e r, ρ, M => (evT C e ρ M).bind fun b M1 => if b then .ok true M1 else evTO C r ρ M1
def evC (C : Cfg) : To → Env → Mem → R Bool
 | .no, _, M => .ok true M
 | .so t, ρ, M => evT C t ρ M
def evO (C : Cfg) : Eo → Env → Mem → R (Option Int)
 | .no, _, M => .ok none M
 | .so e, ρ, M => (evE C e ρ M).bind fun x M1 => match x with
   | .d (.int i) => .ok (some i) M1
   | _ => .bad
def evI (C : Cfg) : Iz → Env → Mem → R (List Z)
 | .it e, ρ, M => (evE C e ρ M).bind fun x M1 => R.of (itH C.hot x) M1
 | .rng1 e, ρ, M => (evE C e ρ M).bind fun x M1 => match x with
   | .d (.int i) => if i < 2 ^ 62 ∧ -(2 ^ 62) ≤ i then .ok (rngZ 0 i) M1 else .bad
   | _ => .bad
 | .rng2 a b, ρ, M => (evE C a ρ M).bind fun x M1 => (evE C b ρ M1).bind fun y M2 => match x, y with
   | .d (.int i), .d (.int j) => if (i < 2 ^ 62 ∧ -(2 ^ 62) ≤ i) ∧ j < 2 ^ 62 ∧ -(2 ^ 62) ≤ j then .ok (rngZ i j) M2 else .bad
   | _, _ => .bad
 | .zip a b, ρ, M => (evE C a ρ M).bind fun x M1 => (evE C b ρ M1).bind fun y M2 => match x, y with
   | .d x, .d y => R.of ((seqOf x).bind fun xs => (seqOf y).map fun ys => zipZ xs ys) M2
   | _, _ => .bad
 | .enum a, ρ, M => if C.hot then .bad else (evE C a ρ M).bind fun x M1 => match x with
   | .d (.list xs) => .ok (enumZ 0 xs) M1
   | _ => .bad
 | .fns is, _, M => .ok (is.map .f) M
end
mutual
def evS (C : Cfg) : S → Env → Mem → O
 | .asg t e, ρ, M => (evE C e ρ M).st ρ fun z M1 => match bindT t ρ z with
   | some ρ1 => .nx ρ1 M1
   | none => .bad
 | .never, _, _ => .bad
 | .par is es, ρ, M => (evEs C es ρ M).st ρ fun zs M1 => if zs.length = is.length then .nx (setZ ρ is.reverse zs.reverse) M1 else .bad
 | .parN is es, ρ, M => (evEs C es ρ M).st ρ fun zs M1 => if zs.length = is.length then .nx (setZ ρ is zs) M1 else .bad
 | .setI o i e, ρ, M => (evE C e ρ M).st ρ fun z M1 => (evE C o ρ M1).st ρ fun x M2 => (evE C i ρ M2).st ρ fun y M3 => match z, x, y with
   | .d d, .r n, .d w => putZ ρ M3 n w d
   | _, _, _ => .bad
 | .ex e, ρ, M => (evE C e ρ M).st ρ fun _ M1 => .nx ρ M1
 | .ret e, ρ, M => (evE C e ρ M).st ρ fun z M1 => .rt z M1
 | .ifs c a b, ρ, M => (evT C c ρ M).st ρ fun k M1 => if k then evSs C a ρ M1 else evSs C b ρ M1
 | .for t it body, ρ, M => (evI C it ρ M).st ρ fun zs M1 => forL (fun ρ' M' => evSs C body ρ' M') t zs ρ M1
 | .forR t e body, ρ, M => (evE C e ρ M).st ρ fun z M1 => match z with
   | .r n => match getL M1 n with
     | some ds => forRL (fun ρ' M' => evSs C body ρ' M') t n (ds.length + 1) 0 ρ M1
     | none => .bad
   | _ => .bad
 | .forD t i body, ρ, M => match getZ ρ i with
   | some (.r n) => match M[n]? with
     | some (.dit kvs) => (forL (fun ρ' M' => evSs C body ρ' M') t (kvs.map fun kv => .d kv.1) ρ (M.set n (.frz kvs))).thaw n kvs
     | _ => .bad
   | _ => .bad
 | .asgL i e, ρ, M => (evE C e ρ M).st ρ fun z M1 => .nx (ρ.set i (.z z)) M1
 | .asg2 i elt tg it cond tg1 e1 cond1 own own1, ρ, M => if C.hot then .bad else ((evI C it ρ M).bind fun zs M1 => if zs.length ≤ 4000 then
     ((lcL2 (fun ρ' M' => evC C cond ρ' M') (rngS fun ρ' M' => evE C e1 ρ' M') (fun ρ' zs' M' => lcL (fun ρ' M' => evC C cond1 ρ' M') (fun ρ' M' => evE C elt ρ' M') tg1 (wipeE ρ' own1) zs' M') tg (wipeE ρ own) zs M1).calm).bind fun ds M2 => .ok (.d (.list ds)) M2 else .bad).st ρ fun z M1 => .nx (ρ.set i (.z z)) M1
 | .while c body, ρ, M => whL (fun ρ' M' => evT C c ρ' M') (fun ρ' M' => evSs C body ρ' M') C.wf ρ M
 | .raise c, ρ, M => if C.hot then .bad else .ex ⟨c, []⟩ ρ M
 | .raiseI c f e, ρ, M => if C.hot || decide (C.lv < 2) then .bad else (evE C e ρ M).st ρ fun z M1 => match z with
   | .d d => .ex ⟨c, [(f, d)]⟩ ρ M1
   | _ => .bad
 | .try body c nm suite, ρ, M => if C.hot then .bad else match evSs C body ρ M with
   | .ex e ρ1 M1 => if C.sub e.c c then match nm with
       | some i => (evSs C.heat suite (ρ1.set i (.exc e)) M1).noex (some i)
       | none => (evSs C.heat suite ρ1 M1).noex none
     else .ex e ρ1 M1
   | x => x
 | .pass, ρ, M => .nx ρ M
def evSs (C : Cfg) : Ss → Env → Mem → O
 | .nil, ρ, M => .nx ρ M
 | .cons s r, ρ, M => (evS C s ρ M).bind fun ρ1 M1 => evSs C r ρ1 M1
end
structure Def where
 np : Nat
 ns : Nat
 body : Ss
def finB (o : O) : R Z := match o with
 | .nx _ M => .ok (.d .none) M
 | .rt z M => .ok z M
 | .ex e _ M => .ex e M
 | .bad => .bad
def startE (d : Def) (ss : List Sl) : Env := ss ++ List.replicate (d.ns - ss.length) .no
def lev (T : List Def) (sub : Nat → Nat → Bool) (gv : List D) (wf : Nat) : Nat → Bool → Cfg
 | 0, h => ⟨h, 0, wf, sub, gv, fun _ _ _ _ => .bad, fun _ _ _ _ _ => .bad, fun _ _ _ _ _ => .bad, fun _ _ _ _ _ _ => .bad⟩
 | k + 1, h => ⟨h, k + 1, wf, sub, gv,
   fun h' i zs M => match T[i]? with
     | some d => if zs.length = d.np then finB (evSs (lev T sub gv wf k h') d.body (startE d (zs.map .z)) M) else .bad
     | none => .bad,
   fun h' i sl zs M => match T[i]? with
     | some d => if zs.length + 1 = d.np then finB (evSs (lev T sub gv wf k h') d.body (startE d (sl :: zs.map .z)) M) else .bad
     | none => .bad,
   fun ps body cap zs M => match bindArgs0 ps (ofCap cap) zs with
     | some ρ => evE (lev T sub gv wf k false) body ρ M
     | none => .bad,
   fun i zs ps body cap M => match T[i]? with
     | some d => if zs.length + 1 = d.np then finB (evSs (lev T sub gv wf k false) d.body (startE d (zs.map .z ++ [.clo ps body cap])) M) else .bad
     | none => .bad⟩
end Zt
namespace Zt
open PySem PySem.Spec PyProof.Rows L2
def EntN (wd : World) (x : NestedKey × Addr × V) (e : DictEntry) : Prop := e.hash = x.1.hash wd ∧ e.key = .ref x.2.1 ∧ RelV x.2.2 e.val
def rawN (wd : World) (a : Addr) (xs : List (NestedKey × Addr × V)) (h : Heap) : Prop := ∃ o es ep, h.get? a = some o ∧ o.ExactDict ∧ o.data = .dict es ep ∧ Paired (EntN wd) xs es.toList
theorem rawN_code {wd : World} {a c : Addr} {xs : List (NestedKey × Addr × V)} {q : Str} : HO.ext (rawN wd a xs) ≠ LamX.CodeO c q := by
 intro e
 have e2 : rawN wd a xs = fun h => ∃ (oc : Obj) (ys : Array Value) (t : Tok), h.get? c = some oc ∧ oc.data = .fields ys ∧ ys[1]? = some (.str q t) := by
   unfold LamX.CodeO at e
   injection e
 let ob : Obj := { cls := .none, data := .fields #[.none, .str q default] }
 let h : Heap := { objs := Array.replicate (max a c + 1) ob }
 have g : ∀ b, b ≤ max a c → h.get? b = some ob := fun b hb => by
   have : h.objs[b]? = some ob := by
     show (Array.replicate (max a c + 1) ob)[b]? = some ob
     rw [Array.getElem?_replicate, if_pos (Nat.lt_succ_of_le hb)]
   unfold Heap.get?
   rw [this]
 have t : rawN wd a xs h := by
   rw [e2]
   exact ⟨ob, _, default, g c (Nat.le_max_right _ _), rfl, rfl⟩
 obtain ⟨o, es, ep, h1, _, h2, _⟩ := t
 rw [g a (Nat.le_max_left _ _)] at h1
 cases h1
 cases h2
end Zt
namespace Zt
open PySem PySem.Spec PyProof.Rows L2
def NT (o : HO) : Prop := ∀ ps, o ≠ .tbl ps
theorem nt_lst {xs : List V} : NT (.lst xs) := fun _ z => nomatch z
theorem nt_tup {xs : List V} : NT (.tup xs) := fun _ z => nomatch z
theorem nt_frz {o : Obj} {u : HO} : NT (.frz o u) := fun _ z => nomatch z
theorem nt_dK {xs : List (L2.Key × V)} : NT (.dK xs) := fun _ z => nomatch z
theorem nt_ext {φ : Heap → Prop} : NT (.ext φ) := fun _ z => nomatch z
theorem nt_xd {xs : List (Str × V)} : NT (.xd xs) := fun _ z => nomatch z
structure Fw where
 fn : Nat → Addr
 wd : World
 cv : Nat → Value
structure Io where
 pl : List Addr
 ex : List Addr
 fa : Fw
instance : Membership Addr Io := ⟨fun ι a => a ∈ ι.pl ∨ a ∈ ι.ex⟩
def Io.add (ι : Io) (p : Addr) : Io := ⟨ι.pl ++ [p], ι.ex, ι.fa⟩
def Io.lock (ι : Io) (p : Addr) : Io := ⟨ι.pl, p :: ι.ex, ι.fa⟩
theorem Io.mem {ι : Io} {n : Nat} {a : Addr} (h : ι.pl[n]? = some a) : a ∈ ι := .inl (List.mem_of_getElem? h)
theorem Io.mem_add {ι : Io} {p a : Addr} (h : a ∈ ι.add p) : a ∈ ι ∨ a = p := by
 rcases h with h | h
 · rcases List.mem_append.mp h with h | h
   · exact .inl (.inl h)
   · exact .inr (by simpa using h)
 · exact .inl (.inr h)
structure Ext (ι : Io) (H : Hp) (ι' : Io) (H' : Hp) : Prop where
 suf : ∃ l, ι'.pl = ι.pl ++ l
 exs : ∀ a ∈ ι.ex, a ∈ ι'.ex
 nin : ∀ a o, H a = some o → NT o → a ∉ ι → a ∉ ι'
 keep : ∀ a o, H a = some o → NT o → a ∉ ι.pl → a ∉ ι'.pl ∧ H' a = some o
 fns : ι'.fa = ι.fa
 fz : ∀ a o u, H a = some (.frz o u) → H' a = some (.frz o u)
theorem Ext.refl (ι : Io) (H : Hp) : Ext ι H ι H := ⟨⟨[], by simp⟩, fun _ h => h, fun _ _ _ _ h => h, fun _ _ h _ n => ⟨n, h⟩, rfl, fun _ _ _ h => h⟩
theorem Ext.trans {ι ι1 ι2 : Io} {H H1 H2 : Hp} (a : Ext ι H ι1 H1) (b : Ext ι1 H1 ι2 H2) : Ext ι H ι2 H2 := by
 obtain ⟨⟨l, el⟩, sa, na, ka, fa, za⟩ := a
 obtain ⟨⟨m, em⟩, sb, nb, kb, fb, zb⟩ := b
 refine ⟨⟨l ++ m, by rw [em, el, List.append_assoc]⟩, fun c hc => sb c (sa c hc), fun c o e t hc => ?_, fun c o e t hc => ?_, fb.trans fa, fun c o u h => zb c o u (za c o u h)⟩
 · obtain ⟨_, e1⟩ := ka c o e t fun z => hc (.inl z)
   exact nb c o e1 t (na c o e t hc)
 · obtain ⟨n1, e1⟩ := ka c o e t hc
   exact kb c o e1 t n1
theorem Ext.new {ι : Io} {H : Hp} {p : Addr} {o : HO} (h : H p = none) : Ext ι H ι (upd H p o) :=
 ⟨⟨[], by simp⟩, fun _ h => h, fun _ _ _ _ h => h, fun a u e _ n => ⟨n, by rw [upd_ne (ne_of_none e h)]; exact e⟩, rfl, fun a u w e => by rw [upd_ne (ne_of_none e h)]; exact e⟩
theorem Ext.newM {ι : Io} {H : Hp} {p : Addr} {o : HO} (h : H p = none) : Ext ι H (ι.add p) (upd H p o) := by
 refine ⟨⟨[p], rfl⟩, fun _ h => h, fun a u e _ n z => ?_, fun a u e t n => ⟨fun z => ?_, by rw [upd_ne (ne_of_none e h)]; exact e⟩, rfl, fun a u w e => by rw [upd_ne (ne_of_none e h)]; exact e⟩
 · rcases Io.mem_add z with z | z
   · exact n z
   · rw [z, h] at e
     cases e
 · rcases List.mem_append.mp (show a ∈ ι.pl ++ [p] from z) with z | z
   · exact n z
   · have : a = p := by simpa using z
     rw [this, h] at e
     cases e
theorem Ext.lock {ι : Io} {H : Hp} {p : Addr} {o : HO} (h : H p = none) : Ext ι H (ι.lock p) (upd H p o) := by
 refine ⟨⟨[], by simp [Io.lock]⟩, fun _ h => List.mem_cons_of_mem _ h, fun a u e _ n z => ?_, fun a u e t n => ⟨n, by rw [upd_ne (ne_of_none e h)]; exact e⟩, rfl, fun a u w e => by rw [upd_ne (ne_of_none e h)]; exact e⟩
 rcases z with z | z
 · exact n (.inl z)
 · rcases List.mem_cons.mp z with z | z
   · rw [z, h] at e
     cases e
   · exact n (.inr z)
theorem Ext.wr {ι : Io} {H : Hp} {p : Addr} {o u : HO} (hp : p ∈ ι.pl) (hu : H p = some u) (hz : ∀ a b, u ≠ .frz a b) : Ext ι H ι (upd H p o) :=
 ⟨⟨[], by simp⟩, fun _ h => h, fun _ _ _ _ h => h, fun a w e _ ha => ⟨ha, by rw [upd_ne (fun z => ha (by rw [z]; exact hp))]; exact e⟩, rfl, fun a b w e => by
   rw [upd_ne (fun z => by
     rw [z, hu] at e
     exact hz _ _ (Option.some.inj e))]
   exact e⟩
def Still (ι : Io) (H : Hp) (p : Addr) (o : HO) : Prop := p ∉ ι ∧ Rd H p o
def KL (K : PySem.W.Frag) (a : Addr) (xs : List V) : Prop := ∃ (o : Obj) (its : Array Value) (n : Nat), K.lookup a = some o ∧ o.cls = .type "list" ∧ o.dict = none ∧ o.data = .seq its n ∧ its.size ≤ sizeLine ∧ Vals xs its.toList
def KT (K : PySem.W.Frag) (a : Addr) (xs : List V) : Prop := ∃ (o : Obj) (its : Array Value) (n : Nat), K.lookup a = some o ∧ o.cls = .type "tuple" ∧ o.data = .seq its n ∧ its.size ≤ sizeLine ∧ Vals xs its.toList
def exT (e C t : Addr) : HO := .ext fun h => h.get? e = some ({ cls := .ref C, dict := none, data := .fields #[.ref t, .none, .none, .none, .bool false, .none] } : Obj)
def StrC (K : PySem.W.Frag) (C : Addr) : Prop := PySem.W.findIn K (.ref C) "__str__" = some (some (.builtin "BaseException.__str__")) ∧ PySem.W.subIn K (.ref C) (.type "BaseException") = some true
mutual
inductive Den (K : PySem.W.Frag) (ι : Io) (H : Hp) : V → D → Prop
 | non : Den K ι H .non .none
 | bl (b : Bool) : Den K ι H (.bl b) (.bool b)
 | int (i : Int) : Den K ι H (.int i) (.int i)
 | str (x : Str) : Den K ι H (.str x) (.str x)
 | lst {a : Addr} {xs : List V} {ds : List D} : (a ∉ ι ∧ H a = some (.lst xs)) → DenL K ι H xs ds → Den K ι H (.ref a) (.list ds)
 | tup {a : Addr} {xs : List V} {ds : List D} : ((a ∉ ι ∧ H a = some (.tup xs)) ∨ (KT K a xs ∧ ds.all isStrD = true)) → DenL K ι H xs ds → Den K ι H (.ref a) (.tuple ds)
 | er0 {a t C : Addr} {c : Nat} {x : Str} : (a ∉ ι ∧ H a = some (exT a C t)) → (t ∉ ι ∧ H t = some (.tup [.str x])) → (ι.fa.cv c = .ref C ∧ StrC K C) → Den K ι H (.ref a) (.dict [(.int (.ofNat c), .str x)])
 | er1 {a dx C : Addr} {c : Nat} {f : Str} {v : V} {d : D} : (a ∉ ι ∧ H a = some (exo a C (some dx))) → (dx ∉ ι ∧ H dx = some (exd dx [(f, v)])) → ι.fa.cv c = .ref C → Den K ι H v d → Den K ι H (.ref a) (.dict [(.int (.ofNat c), .none), (.str f, d)])
inductive DenL (K : PySem.W.Frag) (ι : Io) (H : Hp) : List V → List D → Prop
 | nil : DenL K ι H [] []
 | cons {v : V} {vs : List V} {d : D} {ds : List D} : Den K ι H v d → DenL K ι H vs ds → DenL K ι H (v :: vs) (d :: ds)
end
section
variable {K : PySem.W.Frag} {ι ι' : Io} {H H' : Hp}
theorem Still.mono {p : Addr} {o : HO} (h : Still ι H p o) (e : Ext ι H ι' H') (nt : ∀ ps, o ≠ .tbl ps) : Still ι' H' p o := by
 obtain ⟨hp, hr⟩ := h
 have hp' : p ∉ ι.pl := fun z => hp (.inl z)
 rcases hr with h | ⟨u, h⟩
 · exact ⟨e.nin p _ h nt hp, .inl (e.keep p _ h nt hp').2⟩
 · exact ⟨e.nin p _ h nt_frz hp, .inr ⟨u, (e.keep p _ h nt_frz hp').2⟩⟩
theorem stillT {a : Addr} {xs : List V} (h : a ∉ ι ∧ H a = some (.tup xs)) (e : Ext ι H ι' H') : a ∉ ι' ∧ H' a = some (.tup xs) :=
 ⟨e.nin a _ h.2 nt_tup h.1, (e.keep a _ h.2 nt_tup fun z => h.1 (.inl z)).2⟩
theorem stillX {a : Addr} {φ : Heap → Prop} (h : a ∉ ι ∧ H a = some (.ext φ)) (e : Ext ι H ι' H') : a ∉ ι' ∧ H' a = some (.ext φ) :=
 ⟨e.nin a _ h.2 nt_ext h.1, (e.keep a _ h.2 nt_ext fun z => h.1 (.inl z)).2⟩
theorem stillL {a : Addr} {xs : List V} (h : a ∉ ι ∧ H a = some (.lst xs)) (e : Ext ι H ι' H') : a ∉ ι' ∧ H' a = some (.lst xs) :=
 ⟨e.nin a _ h.2 nt_lst h.1, (e.keep a _ h.2 nt_lst fun z => h.1 (.inl z)).2⟩
mutual
theorem Den.mono (e : Ext ι H ι' H') : ∀ {v : V} {d : D}, Den K ι H v d → Den K ι' H' v d
 | _, _, .non => .non
 | _, _, .bl b => .bl b
 | _, _, .int i => .int i
 | _, _, .str x => .str x
 | _, _, .lst h l => .lst (stillL h e) (DenL.mono e l)
 | _, _, .tup h l => .tup (h.imp (fun z => stillT z e) id) (DenL.mono e l)
 | _, _, .er0 h1 h2 h3 => .er0 (stillX h1 e) (stillT h2 e) ⟨by rw [e.fns]; exact h3.1, h3.2⟩
 | _, _, .er1 h1 h2 h3 h4 => .er1 (stillX h1 e) (stillX h2 e) (by rw [e.fns]; exact h3) (Den.mono e h4)
theorem DenL.mono (e : Ext ι H ι' H') : ∀ {vs : List V} {ds : List D}, DenL K ι H vs ds → DenL K ι' H' vs ds
 | _, _, .nil => .nil
 | _, _, .cons h l => .cons (Den.mono e h) (DenL.mono e l)
end
mutual
theorem Den.dp : ∀ {v : V} {d : D}, Den K ι H v d → d.canLay0 = true → Dp K H v d
 | _, _, .non, _ => .non
 | _, _, .bl b, _ => .bl b
 | _, _, .int i, _ => .int i
 | _, _, .str x, _ => .str x
 | _, _, .lst h l, c => .lst (.inl (.inl h.2)) (DenL.dp l (by simpa only [PyData.canLay0] using c))
 | _, _, .tup h l, c => .tup (h.imp (fun z => .inl z.2) And.left) (DenL.dp l (by simpa only [PyData.canLay0] using c))
 | _, _, .er0 _ _ _, c => by simp [PyData.canLay0] at c
 | _, _, .er1 _ _ _ _, c => by simp [PyData.canLay0] at c
theorem DenL.dp : ∀ {vs : List V} {ds : List D}, DenL K ι H vs ds → PyData.canLayAll0 ds = true → DpAll K H vs ds
 | _, _, .nil, _ => .nil
 | _, _, .cons h l, c => by
   simp only [PyData.canLayAll0, Bool.and_eq_true] at c
   exact .cons (Den.dp h c.1) (DenL.dp l c.2)
end
theorem DenL.length : ∀ {vs : List V} {ds : List D}, DenL K ι H vs ds → vs.length = ds.length
 | _, _, .nil => rfl
 | _, _, .cons _ l => congrArg (· + 1) (DenL.length l)
theorem DenL.append : ∀ {vs ws : List V} {ds es : List D}, DenL K ι H vs ds → DenL K ι H ws es → DenL K ι H (vs ++ ws) (ds ++ es)
 | _, _, _, _, .nil, b => b
 | _, _, _, _, .cons h l, b => .cons h (DenL.append l b)
theorem DenL.take : ∀ (n : Nat) {vs : List V} {ds : List D}, DenL K ι H vs ds → DenL K ι H (vs.take n) (ds.take n)
 | 0, _, _, _ => .nil
 | _ + 1, _, _, .nil => .nil
 | n + 1, _, _, .cons h l => .cons h (DenL.take n l)
theorem DenL.drop : ∀ (n : Nat) {vs : List V} {ds : List D}, DenL K ι H vs ds → DenL K ι H (vs.drop n) (ds.drop n)
 | 0, _, _, h => h
 | _ + 1, _, _, .nil => .nil
 | n + 1, _, _, .cons _ l => DenL.drop n l
theorem DenL.reverse : ∀ {vs : List V} {ds : List D}, DenL K ι H vs ds → DenL K ι H vs.reverse ds.reverse
 | _, _, .nil => .nil
 | _, _, .cons h l => by
   rw [List.reverse_cons, List.reverse_cons]
   exact DenL.append (DenL.reverse l) (.cons h .nil)
theorem DenL.get : ∀ {vs : List V} {ds : List D} {i : Nat} {d : D}, DenL K ι H vs ds → ds[i]? = some d → ∃ v, vs[i]? = some v ∧ Den K ι H v d
 | _, _, 0, _, .cons h _, e => by
   have e := Option.some.inj e
   rw [← e]
   exact ⟨_, rfl, h⟩
 | _, _, i + 1, d, .cons _ l, e => DenL.get (i := i) l e
 | _, _, _, _, .nil, e => by simp at e
theorem DenL.get' : ∀ {vs : List V} {ds : List D} {i : Nat} {v : V}, DenL K ι H vs ds → vs[i]? = some v → ∃ d, ds[i]? = some d ∧ Den K ι H v d
 | _, _, 0, _, .cons h _, e => by
   have e := Option.some.inj e
   rw [← e]
   exact ⟨_, rfl, h⟩
 | _, _, i + 1, d, .cons _ l, e => DenL.get' (i := i) l e
 | _, _, _, _, .nil, e => by simp at e
theorem DenL.set : ∀ {vs : List V} {ds : List D} (i : Nat) {v : V} {d : D}, DenL K ι H vs ds → Den K ι H v d → DenL K ι H (vs.set i v) (ds.set i d)
 | _, _, _, _, _, .nil, _ => .nil
 | _, _, 0, _, _, .cons _ l, h => .cons h l
 | _, _, i + 1, _, _, .cons a l, h => .cons a (DenL.set i l h)
theorem DenL.rep : ∀ (n : Nat) {vs : List V} {ds : List D}, DenL K ι H vs ds → DenL K ι H (List.replicate n vs).flatten (List.replicate n ds).flatten
 | 0, _, _, _ => .nil
 | n + 1, _, _, h => by
   rw [List.replicate_succ, List.replicate_succ, List.flatten_cons, List.flatten_cons]
   exact DenL.append h (DenL.rep n h)
theorem DenL.strs : ∀ (xs : List Str), DenL K ι H (xs.map V.str) (xs.map PyData.str)
 | [] => .nil
 | _ :: r => .cons (.str _) (DenL.strs r)
theorem DenL.ints : ∀ (xs : List Int), DenL K ι H (xs.map V.int) (xs.map PyData.int)
 | [] => .nil
 | _ :: r => .cons (.int _) (DenL.ints r)
theorem DenL.ofInts : ∀ {vs : List V} {ds : List D} {ns : List Int}, DenL K ι H vs ds → intsOf ds = some ns → vs = ns.map V.int ∧ ds = ns.map PyData.int
 | _, _, _, .nil, e => by cases Option.some.inj e; exact ⟨rfl, rfl⟩
 | _, _, _, .cons (.int i) l, e => by
   cases q : intsOf _ with
   | none => rw [intsOf, q] at e; cases e
   | some m =>
     rw [intsOf, q] at e
     cases e
     obtain ⟨a, b⟩ := DenL.ofInts l q
     rw [a, b]
     exact ⟨rfl, rfl⟩
 | _, _, _, .cons .non _, e => nomatch e
 | _, _, _, .cons (.bl _) _, e => nomatch e
 | _, _, _, .cons (.str _) _, e => nomatch e
 | _, _, _, .cons (.lst _ _) _, e => nomatch e
 | _, _, _, .cons (.tup _ _) _, e => nomatch e
theorem DenL.ofStrs : ∀ {vs : List V} {ds : List D} {ns : List Str}, DenL K ι H vs ds → strsOf ds = some ns → vs = ns.map V.str ∧ ds = ns.map PyData.str
 | _, _, _, .nil, e => by cases Option.some.inj e; exact ⟨rfl, rfl⟩
 | _, _, _, .cons (.str i) l, e => by
   cases q : strsOf _ with
   | none => rw [strsOf, q] at e; cases e
   | some m =>
     rw [strsOf, q] at e
     cases e
     obtain ⟨a, b⟩ := DenL.ofStrs l q
     rw [a, b]
     exact ⟨rfl, rfl⟩
 | _, _, _, .cons .non _, e => nomatch e
 | _, _, _, .cons (.bl _) _, e => nomatch e
 | _, _, _, .cons (.int _) _, e => nomatch e
 | _, _, _, .cons (.lst _ _) _, e => nomatch e
 | _, _, _, .cons (.tup _ _) _, e => nomatch e
theorem Den.flat {v : V} {d : D} (h : Den K ι H v d) (f : flatD d = true) : flatV v = true := by
 cases h <;> first | rfl | cases f
theorem DenL.flat : ∀ {vs : List V} {ds : List D}, DenL K ι H vs ds → ds.all flatD = true → vs.all flatV = true
 | _, _, .nil, _ => rfl
 | _, _, .cons h l, f => by
   rw [List.all_cons, Bool.and_eq_true] at f
   rw [List.all_cons, h.flat f.1, DenL.flat l f.2]
   rfl
theorem Den.eqV {v u : V} {d e : D} (h : Den K ι H v d) (k : Den K ι H u e) (f : flatD d = true) (g : flatD e = true) : eqV v u = PyData.eqv d e := by
 cases h <;> cases k <;> first | rfl | cases f | cases g
theorem DenL.inV : ∀ {vs : List V} {ds : List D} {x : V} {d : D}, DenL K ι H vs ds → Den K ι H x d → ds.all flatD = true → flatD d = true → inV x vs = inD d ds
 | _, _, _, _, .nil, _, _, _ => rfl
 | _, _, _, _, .cons h l, k, f, g => by
   rw [List.all_cons, Bool.and_eq_true] at f
   have ih := DenL.inV l k f.2 g
   unfold L2.inV inD at ih ⊢
   rw [List.any_cons, List.any_cons, ih, h.eqV k f.1 g]
theorem Den.list_inv {v : V} {ds : List D} (h : Den K ι H v (.list ds)) : ∃ a xs, v = .ref a ∧ (a ∉ ι ∧ H a = some (.lst xs)) ∧ SqL K H a xs ∧ DenL K ι H xs ds := by
 cases h with
 | lst h l => exact ⟨_, _, rfl, h, .inl (.inl h.2), l⟩
theorem Den.tup_inv {v : V} {ds : List D} (h : Den K ι H v (.tuple ds)) : ∃ a xs, v = .ref a ∧ ((a ∉ ι ∧ H a = some (.tup xs)) ∨ (KT K a xs ∧ ds.all isStrD = true)) ∧ SqT K H a xs ∧ DenL K ι H xs ds := by
 cases h with
 | tup h l => exact ⟨_, _, rfl, h, h.imp (fun z => .inl z.2) And.left, l⟩
theorem Den.newL {p : Addr} {xs : List V} {ds : List D} (nm : ∀ a ∈ ι, H a ≠ none) (h : H p = none) (l : DenL K ι H xs ds) : Den K ι (upd H p (.lst xs)) (.ref p) (.list ds) :=
 .lst ⟨fun z => nm p z h, upd_same⟩ (l.mono (Ext.new h))
theorem Den.newT {p : Addr} {xs : List V} {ds : List D} (nm : ∀ a ∈ ι, H a ≠ none) (h : H p = none) (l : DenL K ι H xs ds) : Den K ι (upd H p (.tup xs)) (.ref p) (.tuple ds) :=
 .tup (.inl ⟨fun z => nm p z h, upd_same⟩) (l.mono (Ext.new h))
end
inductive DenZ (K : PySem.W.Frag) (ι : Io) (H : Hp) : V → Z → Prop
 | d {v : V} {x : D} : Den K ι H v x → DenZ K ι H v (.d x)
 | r {n : Nat} {a : Addr} : ι.pl[n]? = some a → DenZ K ι H (.ref a) (.r n)
 | f {n : Nat} {a : Addr} : ι.fa.fn n = a → DenZ K ι H (.ref a) (.f n)
inductive DenZL (K : PySem.W.Frag) (ι : Io) (H : Hp) : List V → List Z → Prop
 | nil : DenZL K ι H [] []
 | cons {v : V} {vs : List V} {d : Z} {ds : List Z} : DenZ K ι H v d → DenZL K ι H vs ds → DenZL K ι H (v :: vs) (d :: ds)
structure KvD {κ : Type} (K : PySem.W.Frag) (ι : Io) (H : Hp) (vs : List (κ × V)) (kvs : List (κ × D)) : Prop where
 k : vs.map (·.1) = kvs.map (·.1)
 v : DenL K ι H (vs.map (·.2)) (kvs.map (·.2))
structure KvN (K : PySem.W.Frag) (ι : Io) (H : Hp) (a : Addr) (xs : List (NestedKey × Addr × V)) (kvs : List (D × D)) : Prop where
 k : xs.map (fun x => some x.1) = kvs.map fun kv => tupKey kv.1
 kd : DenL K ι H (xs.map fun x => V.ref x.2.1) (kvs.map (·.1))
 v : DenL K ι H (xs.map (·.2.2)) (kvs.map (·.2))
 nd : (xs.map (·.1)).Nodup
 l : xs.length ≤ sizeLine
 m : (a == sysModules) = false
def MOk (K : PySem.W.Frag) (ι : Io) (H : Hp) (a : Addr) : MO → Prop
 | .lst ds => ∃ xs, H a = some (.lst xs) ∧ DenL K ι H xs ds
 | .frz kvs => ∃ o xs, H a = some (.frz o (.ext (rawN ι.fa.wd a xs))) ∧ KvN K ι H a xs kvs
 | .dic kvs => ∃ vs, H a = some (.dK vs) ∧ KvD K ι H vs kvs
 | .dit kvs => ∃ xs, H a = some (.ext (rawN ι.fa.wd a xs)) ∧ KvN K ι H a xs kvs
 | .ins _ _ => ∃ o, H a = some (.xd o)
structure MRel (K : PySem.W.Frag) (ι : Io) (H : Hp) (M : Mem) : Prop where
 len : ι.pl.length = M.length
 nd : ι.pl.Nodup
 exl : ∀ a ∈ ι.ex, ∃ o, H a = some o ∧ NT o
 ok : ∀ (n : Nat) (o : MO) (a : Addr), M[n]? = some o → ι.pl[n]? = some a → MOk K ι H a o
section
variable {K : PySem.W.Frag} {ι ι' : Io} {H H' : Hp} {M : Mem}
theorem Ext.at {n : Nat} {a : Addr} (e : Ext ι H ι' H') (h : ι.pl[n]? = some a) : ι'.pl[n]? = some a := by
 obtain ⟨l, el⟩ := e.suf
 rw [el, List.getElem?_append_left (List.getElem?_eq_some_iff.mp h).1]
 exact h
theorem DenZ.mono (e : Ext ι H ι' H') {v : V} {z : Z} (h : DenZ K ι H v z) : DenZ K ι' H' v z := by
 cases h with
 | d h => exact .d (h.mono e)
 | r h => exact .r (e.at h)
 | f h => exact .f (by rw [e.fns]; exact h)
theorem DenZL.mono (e : Ext ι H ι' H') : ∀ {vs : List V} {zs : List Z}, DenZL K ι H vs zs → DenZL K ι' H' vs zs
 | _, _, .nil => .nil
 | _, _, .cons h l => .cons (h.mono e) (DenZL.mono e l)
theorem DenZL.length : ∀ {vs : List V} {ds : List Z}, DenZL K ι H vs ds → vs.length = ds.length
 | _, _, .nil => rfl
 | _, _, .cons _ l => congrArg (· + 1) (DenZL.length l)
theorem DenZL.data : ∀ {vs : List V} {zs : List Z} {ds : List D}, DenZL K ι H vs zs → dsOf zs = some ds → DenL K ι H vs ds
 | _, _, _, .nil, e => by cases Option.some.inj e; exact .nil
 | _, _, _, .cons (.d h) l, e => by
   cases q : dsOf _ with
   | none => rw [dsOf, q] at e; cases e
   | some m =>
     rw [dsOf, q] at e
     cases e
     exact .cons h (DenZL.data l q)
 | _, _, _, .cons (.r _) _, e => nomatch e
 | _, _, _, .cons (.f _) _, e => nomatch e
theorem DenZL.get : ∀ {vs : List V} {ds : List Z} {i : Nat} {d : Z}, DenZL K ι H vs ds → ds[i]? = some d → ∃ v, vs[i]? = some v ∧ DenZ K ι H v d
 | _, _, 0, _, .cons h _, e => by
   have e := Option.some.inj e
   rw [← e]
   exact ⟨_, rfl, h⟩
 | _, _, i + 1, d, .cons _ l, e => DenZL.get (i := i) l e
 | _, _, _, _, .nil, e => by simp at e
theorem KvD.mono {κ : Type} {vs : List (κ × V)} {kvs : List (κ × D)} (h : KvD K ι H vs kvs) (e : Ext ι H ι' H') : KvD K ι' H' vs kvs := ⟨h.k, h.v.mono e⟩
theorem KvD.length {κ : Type} {vs : List (κ × V)} {kvs : List (κ × D)} (h : KvD K ι H vs kvs) : vs.length = kvs.length := by
 have := h.v.length
 simpa using this
theorem KvD.look {κ : Type} [DecidableEq κ] {k : κ} {d : D} : ∀ {vs : List (κ × V)} {kvs : List (κ × D)}, KvD K ι H vs kvs → lookK kvs k = some d → ∃ v, valV vs k = some v ∧ Den K ι H v d
 | [], [], _, e => by cases e
 | [], _ :: _, h, _ => by cases h.k
 | _ :: _, [], h, _ => by cases h.k
 | p :: vs, q :: kvs, h, e => by
   obtain ⟨hk, hv⟩ := h
   simp only [List.map_cons, List.cons.injEq] at hk hv
   cases hv with
   | cons h1 h2 =>
     by_cases c : q.1 = k
     · have : lookK (q :: kvs) k = some q.2 := by simp [lookK, List.find?_cons, c]
       rw [this] at e
       cases e
       exact ⟨p.2, valV_pos (by rw [hk.1]; exact c), h1⟩
     · have : lookK (q :: kvs) k = lookK kvs k := by simp [lookK, List.find?_cons, c]
       rw [this] at e
       obtain ⟨v, e1, d1⟩ := KvD.look ⟨hk.2, h2⟩ e
       exact ⟨v, by rw [valV_neg (by rw [hk.1]; exact c)]; exact e1, d1⟩
theorem KvD.any {κ : Type} [DecidableEq κ] {k : κ} {vs : List (κ × V)} {kvs : List (κ × D)} (h : KvD K ι H vs kvs) : (vs.any fun kv => decide (kv.1 = k)) = kvs.any fun kv => decide (kv.1 = k) := by
 have e : ∀ {β : Type} (l : List (κ × β)), (l.any fun kv => decide (kv.1 = k)) = (l.map (·.1)).any fun x => decide (x = k) := fun l => by rw [List.any_map]; rfl
 rw [e, e, h.k]
theorem KvD.rep {κ : Type} [DecidableEq κ] {k : κ} {v : V} {d : D} (hd : Den K ι H v d) : ∀ {vs : List (κ × V)} {kvs : List (κ × D)}, KvD K ι H vs kvs → KvD K ι H (vs.map fun kv => if kv.1 = k then (kv.1, v) else kv) (kvs.map fun kv => if kv.1 = k then (kv.1, d) else kv)
 | [], [], _ => ⟨rfl, .nil⟩
 | [], _ :: _, h => by cases h.k
 | _ :: _, [], h => by cases h.k
 | (pk, pv) :: vs, (qk, qd) :: kvs, h => by
   obtain ⟨hk, hv⟩ := h
   simp only [List.map_cons, List.cons.injEq] at hk hv
   have e : pk = qk := hk.1
   subst e
   cases hv with
   | cons h1 h2 =>
     have ih := KvD.rep hd (k := k) (vs := vs) (kvs := kvs) ⟨hk.2, h2⟩
     by_cases c : pk = k
     · refine ⟨?_, ?_⟩
       · simp only [List.map_cons, c, if_true]
         rw [ih.k]
       · simp only [List.map_cons, c, if_true]
         exact .cons hd ih.v
     · refine ⟨?_, ?_⟩
       · simp only [List.map_cons, c, if_false]
         rw [ih.k]
       · simp only [List.map_cons, c, if_false]
         exact .cons h1 ih.v
theorem KvD.put {κ : Type} [DecidableEq κ] {k : κ} {v : V} {d : D} (hd : Den K ι H v d) {vs : List (κ × V)} {kvs : List (κ × D)} (h : KvD K ι H vs kvs) : KvD K ι H (putK vs k v) (putD kvs k d) := by
 unfold putK putD
 rw [h.any]
 split
 · exact KvD.rep hd h
 · exact ⟨by simp [h.k], by
     rw [List.map_append, List.map_append]
     exact h.v.append (.cons hd .nil)⟩
theorem MRel.has (m : MRel K ι H M) : ∀ a ∈ ι, H a ≠ none := fun a ha => by
 rcases ha with ha | ha
 case inr =>
   obtain ⟨o, e, _⟩ := m.exl a ha
   rw [e]
   exact fun z => nomatch z
 obtain ⟨n, hn, e⟩ := List.mem_iff_getElem.mp ha
 have h1 : ι.pl[n]? = some a := by rw [List.getElem?_eq_getElem hn, e]
 have h2 : n < M.length := by rw [← m.len]; exact hn
 have h3 := m.ok n M[n] a (List.getElem?_eq_getElem h2) h1
 cases q : M[n] with
 | lst ds => rw [q] at h3; obtain ⟨xs, e, _⟩ := h3; rw [e]; exact fun z => nomatch z
 | frz ds => rw [q] at h3; obtain ⟨_, xs, e, _⟩ := h3; rw [e]; exact fun z => nomatch z
 | dic ds => rw [q] at h3; obtain ⟨xs, e, _⟩ := h3; rw [e]; exact fun z => nomatch z
 | dit ds => rw [q] at h3; obtain ⟨xs, e, _⟩ := h3; rw [e]; exact fun z => nomatch z
 | ins c ds => rw [q] at h3; obtain ⟨xs, e⟩ := h3; rw [e]; exact fun z => nomatch z
theorem MRel.at (m : MRel K ι H M) {n : Nat} {ds : List D} {a : Addr} (e : M[n]? = some (.lst ds)) (h : ι.pl[n]? = some a) : ∃ xs, H a = some (.lst xs) ∧ DenL K ι H xs ds := m.ok n _ a e h
theorem MOk.mono {a : Addr} {o : MO} (h : MOk K ι H a o) (e : Ext ι H ι' H') (k : H' a = H a) : MOk K ι' H' a o := by
 cases o with
 | lst ds =>
   obtain ⟨xs, q, l⟩ := h
   exact ⟨xs, by rw [k]; exact q, l.mono e⟩
 | frz ds =>
   obtain ⟨o, xs, q, l⟩ := h
   exact ⟨o, xs, by rw [k, e.fns]; exact q, ⟨l.k, l.kd.mono e, l.v.mono e, l.nd, l.l, l.m⟩⟩
 | dic ds =>
   obtain ⟨xs, q, l⟩ := h
   exact ⟨xs, by rw [k]; exact q, l.mono e⟩
 | dit ds =>
   obtain ⟨xs, q, l⟩ := h
   exact ⟨xs, by rw [k, e.fns]; exact q, ⟨l.k, l.kd.mono e, l.v.mono e, l.nd, l.l, l.m⟩⟩
 | ins c ds =>
   obtain ⟨xs, q⟩ := h
   exact ⟨xs, by rw [k]; exact q⟩
theorem exl_new {p : Addr} {o : HO} (m : MRel K ι H M) (h : H p = none) : ∀ a ∈ ι.ex, ∃ u, upd H p o a = some u ∧ NT u := fun a ha => by
 obtain ⟨u, e, t⟩ := m.exl a ha
 exact ⟨u, by rw [upd_ne (ne_of_none e h)]; exact e, t⟩
theorem exl_wr {p : Addr} {o : HO} (m : MRel K ι H M) (ho : NT o) : ∀ a ∈ ι.ex, ∃ u, upd H p o a = some u ∧ NT u := fun a ha => by
 by_cases z : a = p
 · exact ⟨o, by rw [z, upd_same], ho⟩
 · obtain ⟨u, e, t⟩ := m.exl a ha
   exact ⟨u, by rw [upd_ne z]; exact e, t⟩
theorem MRel.new {p : Addr} {o : HO} (m : MRel K ι H M) (h : H p = none) : MRel K ι (upd H p o) M :=
 ⟨m.len, m.nd, exl_new m h, fun n u a e1 e2 => (m.ok n u a e1 e2).mono (Ext.new h) (upd_ne fun z => m.has a (Io.mem e2) (by rw [z]; exact h))⟩
theorem MRel.newO {p : Addr} {o : HO} {u : MO} (m : MRel K ι H M) (h : H p = none) (l : MOk K (ι.add p) (upd H p o) p u) : MRel K (ι.add p) (upd H p o) (M ++ [u]) := by
 refine ⟨by simp [m.len, Io.add], ?_, fun a ha => exl_new m h a ha, fun n u' a e1 e2 => ?_⟩
 · refine List.nodup_append.mpr ⟨m.nd, by simp, fun a ha b hb => ?_⟩
   have : b = p := by simpa using hb
   rw [this]
   exact fun z => m.has a (.inl ha) (by rw [z]; exact h)
 · have e2 : (ι.pl ++ [p])[n]? = some a := e2
   by_cases hn : n < ι.pl.length
   · rw [List.getElem?_append_left hn] at e2
     rw [List.getElem?_append_left (by rw [← m.len]; exact hn)] at e1
     exact (m.ok n u' a e1 e2).mono (Ext.newM h) (upd_ne fun z => m.has a (Io.mem e2) (by rw [z]; exact h))
   · have hn : ι.pl.length ≤ n := Nat.le_of_not_lt hn
     rw [List.getElem?_append_right hn] at e2
     rw [List.getElem?_append_right (by rw [← m.len]; exact hn)] at e1
     have h0 : n - ι.pl.length = 0 := by
       have := (List.getElem?_eq_some_iff.mp e2).1
       simp at this
       omega
     rw [h0] at e2
     rw [show n - M.length = 0 by rw [← m.len]; exact h0] at e1
     cases Option.some.inj e1
     have ea : p = a := Option.some.inj e2
     rw [← ea]
     exact l
theorem MRel.newM {p : Addr} {xs : List V} {ds : List D} (m : MRel K ι H M) (h : H p = none) (l : DenL K ι H xs ds) : MRel K (ι.add p) (upd H p (.lst xs)) (M ++ [.lst ds]) := m.newO h ⟨xs, upd_same, l.mono (Ext.newM h)⟩
theorem Still.touch {D a : Addr} {o : HO} {u : HO} (hD : D ∈ ι) (z : Still ι H a u) : Still ι (upd H D o) a u := by
 obtain ⟨h1, h2⟩ := z
 have e : upd H D o a = H a := upd_ne (fun e => h1 (by rw [e]; exact hD))
 exact ⟨h1, h2.imp (fun q => by rw [e]; exact q) fun ⟨u, q⟩ => ⟨u, by rw [e]; exact q⟩⟩
mutual
theorem Den.touch {D : Addr} {o : HO} (hD : D ∈ ι) : ∀ {v : V} {d : PyData}, Den K ι H v d → Den K ι (upd H D o) v d
 | _, _, .non => .non
 | _, _, .bl b => .bl b
 | _, _, .int i => .int i
 | _, _, .str x => .str x
 | _, _, .lst h l => .lst ⟨h.1, by rw [upd_ne (fun z => h.1 (by rw [z]; exact hD))]; exact h.2⟩ (DenL.touch hD l)
 | _, _, .tup h l => .tup (h.imp (fun z => ⟨z.1, by rw [upd_ne (fun q => z.1 (by rw [q]; exact hD))]; exact z.2⟩) id) (DenL.touch hD l)
 | _, _, .er0 h1 h2 h3 => .er0 ⟨h1.1, by rw [upd_ne (fun q => h1.1 (by rw [q]; exact hD))]; exact h1.2⟩ ⟨h2.1, by rw [upd_ne (fun q => h2.1 (by rw [q]; exact hD))]; exact h2.2⟩ h3
 | _, _, .er1 h1 h2 h3 h4 => .er1 ⟨h1.1, by rw [upd_ne (fun q => h1.1 (by rw [q]; exact hD))]; exact h1.2⟩ ⟨h2.1, by rw [upd_ne (fun q => h2.1 (by rw [q]; exact hD))]; exact h2.2⟩ h3 (Den.touch hD h4)
theorem DenL.touch {D : Addr} {o : HO} (hD : D ∈ ι) : ∀ {vs : List V} {ds : List PyData}, DenL K ι H vs ds → DenL K ι (upd H D o) vs ds
 | _, _, .nil => .nil
 | _, _, .cons h l => .cons (Den.touch hD h) (DenL.touch hD l)
end
mutual
theorem Den.anti (hs : ∀ a, a ∈ ι' → a ∈ ι) (hf : ι'.fa = ι.fa) : ∀ {v : V} {d : PyData}, Den K ι H v d → Den K ι' H v d
 | _, _, .non => .non
 | _, _, .bl b => .bl b
 | _, _, .int i => .int i
 | _, _, .str x => .str x
 | _, _, .lst h l => .lst ⟨fun z => h.1 (hs _ z), h.2⟩ (DenL.anti hs hf l)
 | _, _, .tup h l => .tup (h.imp (fun z => ⟨fun q => z.1 (hs _ q), z.2⟩) id) (DenL.anti hs hf l)
 | _, _, .er0 h1 h2 h3 => .er0 ⟨fun z => h1.1 (hs _ z), h1.2⟩ ⟨fun z => h2.1 (hs _ z), h2.2⟩ ⟨by rw [hf]; exact h3.1, h3.2⟩
 | _, _, .er1 h1 h2 h3 h4 => .er1 ⟨fun z => h1.1 (hs _ z), h1.2⟩ ⟨fun z => h2.1 (hs _ z), h2.2⟩ (by rw [hf]; exact h3) (Den.anti hs hf h4)
theorem DenL.anti (hs : ∀ a, a ∈ ι' → a ∈ ι) (hf : ι'.fa = ι.fa) : ∀ {vs : List V} {ds : List PyData}, DenL K ι H vs ds → DenL K ι' H vs ds
 | _, _, .nil => .nil
 | _, _, .cons h l => .cons (Den.anti hs hf h) (DenL.anti hs hf l)
end
theorem MOk.touch {D a : Addr} {o : HO} {u : MO} (hD : D ∈ ι) (hn : a ≠ D) (h : MOk K ι H a u) : MOk K ι (upd H D o) a u := by
 cases u with
 | lst ds =>
   obtain ⟨xs, q, l⟩ := h
   exact ⟨xs, by rw [upd_ne hn]; exact q, l.touch hD⟩
 | frz ds =>
   obtain ⟨o, xs, q, l⟩ := h
   exact ⟨o, xs, by rw [upd_ne hn]; exact q, ⟨l.k, l.kd.touch hD, l.v.touch hD, l.nd, l.l, l.m⟩⟩
 | dic ds =>
   obtain ⟨xs, q, l⟩ := h
   exact ⟨xs, by rw [upd_ne hn]; exact q, l.k, l.v.touch hD⟩
 | dit ds =>
   obtain ⟨xs, q, l⟩ := h
   exact ⟨xs, by rw [upd_ne hn]; exact q, ⟨l.k, l.kd.touch hD, l.v.touch hD, l.nd, l.l, l.m⟩⟩
 | ins c ds =>
   obtain ⟨xs, q⟩ := h
   exact ⟨xs, by rw [upd_ne hn]; exact q⟩
theorem MRel.wrO {n : Nat} {a : Addr} {u w : HO} {z : MO} (m : MRel K ι H M) (ha : ι.pl[n]? = some a) (hu : H a = some u) (hw : NT w) (l : MOk K ι (upd H a w) a z) : MRel K ι (upd H a w) (M.set n z) := by
 refine ⟨by simp [m.len], m.nd, exl_wr m hw, fun k o b e1 e2 => ?_⟩
 by_cases hk : n = k
 · subst hk
   rw [ha] at e2
   have eb : a = b := Option.some.inj e2
   have hl : n < M.length := by rw [← m.len]; exact (List.getElem?_eq_some_iff.mp ha).1
   rw [List.getElem?_set_self hl] at e1
   cases Option.some.inj e1
   rw [← eb]
   exact l
 · rw [List.getElem?_set_ne hk] at e1
   refine (m.ok k o b e1 e2).touch (Io.mem ha) (fun z => hk ?_)
   obtain ⟨h1, q1⟩ := List.getElem?_eq_some_iff.mp ha
   obtain ⟨h2, q2⟩ := List.getElem?_eq_some_iff.mp e2
   exact (List.getElem_inj m.nd).mp (q1.trans (z.symm.trans q2.symm))
theorem MRel.wr {n : Nat} {a : Addr} {u : HO} {xs : List V} {ds : List D} (m : MRel K ι H M) (ha : ι.pl[n]? = some a) (hu : H a = some u) (l : DenL K ι H xs ds) : MRel K ι (upd H a (.lst xs)) (M.set n (.lst ds)) := m.wrO ha hu nt_lst ⟨xs, upd_same, l.touch (Io.mem ha)⟩
theorem MOk.anti {a : Addr} {u : MO} (hf : ι'.fa = ι.fa) (hs : ∀ a, a ∈ ι' → a ∈ ι) (h : MOk K ι H a u) : MOk K ι' H a u := by
 cases u with
 | lst ds =>
   obtain ⟨xs, q, l⟩ := h
   exact ⟨xs, q, l.anti hs hf⟩
 | frz ds =>
   obtain ⟨o, xs, q, l⟩ := h
   exact ⟨o, xs, by rw [hf]; exact q, ⟨l.k, l.kd.anti hs hf, l.v.anti hs hf, l.nd, l.l, l.m⟩⟩
 | dic ds =>
   obtain ⟨xs, q, l⟩ := h
   exact ⟨xs, q, l.k, l.v.anti hs hf⟩
 | dit ds =>
   obtain ⟨xs, q, l⟩ := h
   exact ⟨xs, by rw [hf]; exact q, ⟨l.k, l.kd.anti hs hf, l.v.anti hs hf, l.nd, l.l, l.m⟩⟩
 | ins c ds => exact h
theorem MRel.touch {D : Addr} {o : HO} (m : MRel K ι H M) (ho : NT o) (hD : D ∈ ι.ex) (hn : D ∉ ι.pl) : MRel K ι (upd H D o) M :=
 ⟨m.len, m.nd, exl_wr m ho, fun n u a e1 e2 => (m.ok n u a e1 e2).touch (.inr hD) fun e => hn (by rw [← e]; exact List.mem_of_getElem? e2)⟩
theorem MRel.anti (m : MRel K ι H M) (hp : ι'.pl = ι.pl) (hf : ι'.fa = ι.fa) (hs : ∀ a ∈ ι'.ex, a ∈ ι.ex) : MRel K ι' H M :=
 ⟨by rw [hp]; exact m.len, by rw [hp]; exact m.nd, fun a ha => m.exl a (hs a ha), fun n u a e1 e2 => (m.ok n u a e1 (by rw [← hp]; exact e2)).anti hf fun a ha => by
   rcases ha with z | z
   · exact .inl (by rw [← hp]; exact z)
   · exact .inr (hs a z)⟩
theorem MRel.lock {D : Addr} {o : HO} (m : MRel K ι H M) (ho : NT o) (h : H D = none) : MRel K (ι.lock D) (upd H D o) M := by
 refine ⟨m.len, m.nd, fun a ha => ?_, fun n u a e1 e2 => (m.ok n u a e1 e2).mono (Ext.lock h) (upd_ne fun z => m.has a (Io.mem e2) (by rw [z]; exact h))⟩
 rcases List.mem_cons.mp ha with e | e
 · exact ⟨o, by rw [e, upd_same], ho⟩
 · exact exl_new m h a e
theorem MRel.extN (m : MRel K ι H M) (e : ∀ b o, H b = some o → NT o → H' b = some o) : MRel K ι H' M := by
 have x : Ext ι H ι H' := ⟨⟨[], by simp⟩, fun _ h => h, fun _ _ _ _ h => h, fun a o q t n => ⟨n, e a o q t⟩, rfl, fun a o u q => e a _ q nt_frz⟩
 refine ⟨m.len, m.nd, fun a ha => ?_, fun n u a e1 e2 => ?_⟩
 · obtain ⟨o, q, t⟩ := m.exl a ha
   exact ⟨o, e a o q t, t⟩
 · have h := m.ok n u a e1 e2
   refine h.mono x ?_
   cases u with
   | lst ds => obtain ⟨xs, q, _⟩ := h; rw [q, e a _ q nt_lst]
   | frz ds => obtain ⟨o, xs, q, _⟩ := h; rw [q, e a _ q nt_frz]
   | dic ds => obtain ⟨xs, q, _⟩ := h; rw [q, e a _ q nt_dK]
   | dit ds => obtain ⟨xs, q, _⟩ := h; rw [q, e a _ q nt_ext]
   | ins c ds => obtain ⟨xs, q⟩ := h; rw [q, e a _ q nt_xd]
end
end Zt
namespace Zt
open PySem PySem.Spec PyProof.Rows L2
abbrev St := L2.St
structure Wd where
 P : Program
 w : World
 K : PySem.W.Frag
 mg : Str → Option Value
 base : Heap
 T : List Def
 nm : Nat → Str
 fa : Nat → Addr
 fd : Nat → FuncData
 ps : Nat → List Str
 cn : Nat → Str
 cv : Nat → Value
 sub : Nat → Nat → Bool
 wf : Nat
 gn : Nat → Str
 gv : List D
 tb : List (Addr × Str)
structure MI (W : Wd) (ι : Io) (H : Hp) (M : Mem) : Prop where
 m : MRel W.K ι H M
 f : ι.fa = ⟨W.fa, W.w, W.cv⟩
 t : LamX.Tabs W.tb H
 o : ∀ p ∈ W.tb, p.1 ∉ ι
section
variable {W : Wd} {ι ι' : Io} {H H' : Hp} {M : Mem}
theorem tabs_upd {T : List (Addr × Str)} {p : Addr} {o : HO} (t : LamX.Tabs T H) (hp : ∀ q ∈ T, q.1 ≠ p) (hc : ∀ c q, H c = some (LamX.CodeO c q) → c ≠ p) : LamX.Tabs T (upd H p o) := fun q hq => by
 obtain ⟨ps, h1, h2, h3⟩ := t q hq
 refine ⟨ps, by rw [upd_ne (hp q hq)]; exact h1, h2, fun pos cv hcv => ?_⟩
 obtain ⟨c, e1, e2⟩ := h3 pos cv hcv
 exact ⟨c, e1, by rw [upd_ne (hc c q.2 e2)]; exact e2⟩
theorem MI.has (m : MI W ι H M) : ∀ a ∈ ι, H a ≠ none := m.m.has
theorem MI.new {p : Addr} {o : HO} (m : MI W ι H M) (h : H p = none) : MI W ι (upd H p o) M :=
 ⟨m.m.new h, m.f, m.t.ext fun b u e => by rw [upd_ne (ne_of_none e h)]; exact e, m.o⟩
theorem MI.newM {p : Addr} {xs : List V} {ds : List D} (m : MI W ι H M) (h : H p = none) (l : DenL W.K ι H xs ds) : MI W (ι.add p) (upd H p (.lst xs)) (M ++ [.lst ds]) :=
 ⟨m.m.newM h l, m.f, m.t.ext fun b u e => by rw [upd_ne (ne_of_none e h)]; exact e, fun q hq z => by
   rcases Io.mem_add z with z | z
   · exact m.o q hq z
   · obtain ⟨ps, e, _⟩ := m.t q hq
     have : q.1 = p := z
     rw [this, h] at e
     cases e⟩
theorem MI.newO {p : Addr} {o : HO} {u : MO} (m : MI W ι H M) (h : H p = none) (l : MOk W.K (ι.add p) (upd H p o) p u) : MI W (ι.add p) (upd H p o) (M ++ [u]) :=
 ⟨m.m.newO h l, m.f, m.t.ext fun b u e => by rw [upd_ne (ne_of_none e h)]; exact e, fun q hq z => by
   rcases Io.mem_add z with z | z
   · exact m.o q hq z
   · obtain ⟨ps, e, _⟩ := m.t q hq
     have : q.1 = p := z
     rw [this, h] at e
     cases e⟩
theorem MI.wrO {n : Nat} {a : Addr} {u w : HO} {z : MO} (m : MI W ι H M) (ha : ι.pl[n]? = some a) (hu : H a = some u) (hc : ∀ q, u ≠ LamX.CodeO a q) (hw : NT w) (l : MOk W.K ι (upd H a w) a z) : MI W ι (upd H a w) (M.set n z) :=
 ⟨m.m.wrO ha hu hw l, m.f, tabs_upd m.t (fun q hq z => m.o q hq (by rw [z]; exact Io.mem ha)) (fun c q e z => by
   rw [z, hu] at e
   exact hc _ (Option.some.inj e)), m.o⟩
theorem MI.wr {n : Nat} {a : Addr} {ys xs : List V} {ds : List D} (m : MI W ι H M) (ha : ι.pl[n]? = some a) (hu : H a = some (.lst ys)) (l : DenL W.K ι H xs ds) : MI W ι (upd H a (.lst xs)) (M.set n (.lst ds)) :=
 ⟨m.m.wr ha hu l, m.f, tabs_upd m.t (fun q hq z => m.o q hq (by rw [z]; exact Io.mem ha)) (fun c q e z => by
   rw [z, hu] at e
   cases e), m.o⟩
end
def ExF (K : PySem.W.Frag) (ι : Io) (H : Hp) (dx : Option Addr) (fs : List (Str × D)) : Prop := (fs = [] → dx = none) ∧
 ∀ f d, fs.lookup f = some d → ∃ dd xs v, dx = some dd ∧ dd ∉ ι ∧ H dd = some (.xd xs) ∧ xs.lookup f = some v ∧ Den K ι H v d
theorem ExF.nil {K : PySem.W.Frag} {ι : Io} {H : Hp} : ExF K ι H none [] := ⟨fun _ => rfl, fun _ _ h => nomatch h⟩
theorem ExF.mono {K : PySem.W.Frag} {ι ι' : Io} {H H' : Hp} {dx : Option Addr} {fs : List (Str × D)} (e : Ext ι H ι' H') (h : ExF K ι H dx fs) : ExF K ι' H' dx fs := ⟨h.1, fun f d q => by
 obtain ⟨dd, xs, v, h1, h2, h3, h4, h5⟩ := h.2 f d q
 exact ⟨dd, xs, v, h1, e.nin dd _ h3 nt_xd h2, (e.keep dd _ h3 nt_xd fun z => h2 (.inl z)).2, h4, h5.mono e⟩⟩
structure Sc where
 CL : Addr → List Nat → E → St → Io → Hp → Prop
 mono : ∀ {f ps b σ ι H ι' H'}, CL f ps b σ ι H → Ext ι H ι' H' → CL f ps b σ ι' H'
 touch : ∀ {f ps b σ ι H D o}, CL f ps b σ ι H → (D ∈ ι.pl ∨ ∃ xs, H D = some (.lst xs)) → CL f ps b σ ι (upd H D o)
 XA : Addr → Nat → Option Addr → Prop
def Sc.none : Sc := ⟨fun _ _ _ _ _ _ => False, fun h _ => h.elim, fun h _ => h.elim, fun _ _ _ => False⟩
def CapOk (K : PySem.W.Frag) (ι : Io) (H : Hp) (σ : St) (cap : List (Option Z)) : Prop := ∀ (i : Nat) (z : Z), cap[i]? = some (some z) → ∃ x, σ[i]? = some (some x) ∧ DenZ K ι H x z
theorem CapOk.mono {K : PySem.W.Frag} {ι ι' : Io} {H H' : Hp} {σ : St} {cap : List (Option Z)} (e : Ext ι H ι' H') (h : CapOk K ι H σ cap) : CapOk K ι' H' σ cap := fun i z q => by
 obtain ⟨x, h1, h2⟩ := h i z q
 exact ⟨x, h1, h2.mono e⟩
def SlD (K : PySem.W.Frag) (S : Sc) (ι : Io) (H : Hp) (o : Option (Option V)) : Sl → Prop
 | .no => True
 | .z v => ∃ x, o = some (some x) ∧ DenZ K ι H x v
 | .clo ps b cap => ∃ f σ, o = some (some (.ref f)) ∧ σ.length = cap.length ∧ S.CL f ps b σ ι H ∧ CapOk K ι H σ cap
 | .exc e => ∃ a dx, o = some (some (.ref a)) ∧ S.XA a e.c dx ∧ ExF K ι H dx e.fs
 | .scr ns => ∃ a, o = some (some (.ref a)) ∧ (Still ι H a (.lst (ns.map V.int)) ∨ KL K a (ns.map V.int))
theorem SlD.mono {K : PySem.W.Frag} {S : Sc} {ι ι' : Io} {H H' : Hp} {o : Option (Option V)} (e : Ext ι H ι' H') : ∀ {s : Sl}, SlD K S ι H o s → SlD K S ι' H' o s
 | .no, _ => trivial
 | .z _, ⟨x, h1, h2⟩ => ⟨x, h1, h2.mono e⟩
 | .clo _ _ _, ⟨f, σ, h1, h0, h2, h3⟩ => ⟨f, σ, h1, h0, S.mono h2 e, h3.mono e⟩
 | .exc _, ⟨a, dx, h1, h2, h3⟩ => ⟨a, dx, h1, h2, h3.mono e⟩
 | .scr _, ⟨a, h1, h2⟩ => ⟨a, h1, h2.imp (fun z => z.mono e nt_lst) id⟩
structure SR (K : PySem.W.Frag) (S : Sc) (ι : Io) (H : Hp) (σ : St) (ρ : Env) : Prop where
 len : σ.length = ρ.length
 ix : ∀ (i : Nat) (s : Sl), ρ[i]? = some s → SlD K S ι H σ[i]? s
section
variable {K : PySem.W.Frag} {S : Sc} {ι ι' : Io} {H H' : Hp} {σ : St} {ρ : Env}
theorem SR.mono (e : Ext ι H ι' H') (h : SR K S ι H σ ρ) : SR K S ι' H' σ ρ := ⟨h.len, fun i s q => (h.ix i s q).mono e⟩
theorem DenZ.touch {D : Addr} {o : HO} (hD : D ∈ ι) {v : V} {z : Z} (h : DenZ K ι H v z) : DenZ K ι (upd H D o) v z := by
 cases h with
 | d h => exact .d (h.touch hD)
 | r h => exact .r h
 | f h => exact .f h
theorem SR.touch {D : Addr} {o : HO} (hD : D ∈ ι) (hc : D ∈ ι.pl ∨ ∃ xs, H D = some (.lst xs)) (h : SR K S ι H σ ρ) : SR K S ι (upd H D o) σ ρ := ⟨h.len, fun i s q => by
 have z := h.ix i s q
 cases s with
 | no => trivial
 | z v =>
   obtain ⟨x, h1, h2⟩ := z
   exact ⟨x, h1, h2.touch hD⟩
 | clo ps b cap =>
   obtain ⟨f, τ, h1, h0, h2, h3⟩ := z
   exact ⟨f, τ, h1, h0, S.touch h2 hc, fun i z q => by
     obtain ⟨x, g1, g2⟩ := h3 i z q
     exact ⟨x, g1, g2.touch hD⟩⟩
 | exc e =>
   obtain ⟨a, dx, h1, h2, h3⟩ := z
   refine ⟨a, dx, h1, h2, h3.1, fun f d q => ?_⟩
   obtain ⟨dd, xs, v, g1, g2, g3, g4, g5⟩ := h3.2 f d q
   exact ⟨dd, xs, v, g1, g2, by rw [upd_ne fun e => g2 (by rw [e]; exact hD)]; exact g3, g4, g5.touch hD⟩
 | scr ns =>
   obtain ⟨a, h1, h2⟩ := z
   exact ⟨a, h1, h2.imp (fun z => z.touch hD) id⟩⟩
theorem SR.get (h : SR K S ι H σ ρ) {i : Nat} {z : Z} (e : getZ ρ i = some z) : ∃ x, σ[i]? = some (some x) ∧ DenZ K ι H x z := by
 unfold getZ at e
 cases q : ρ[i]? with
 | none => rw [q] at e; cases e
 | some s =>
   rw [q] at e
   have e : slZ s = some z := e
   have := h.ix i s q
   cases s with
   | z v => cases Option.some.inj e; exact this
   | no => cases e
   | clo a b c => cases e
   | exc a => cases e
   | scr a => cases e
theorem SR.set (h : SR K S ι H σ ρ) (i : Nat) {x : V} {z : Z} (d : DenZ K ι H x z) : SR K S ι H (σ.set i (some x)) (ρ.set i (.z z)) := by
 refine ⟨by simp [h.len], fun j s q => ?_⟩
 by_cases hj : i = j
 · subst hj
   have hl : i < ρ.length := by
     have := (List.getElem?_eq_some_iff.mp q).1
     simpa using this
   rw [List.getElem?_set_self hl] at q
   cases Option.some.inj q
   exact ⟨x, List.getElem?_set_self (by rw [h.len]; exact hl), d⟩
 · rw [List.getElem?_set_ne hj] at q ⊢
   exact h.ix j s q
theorem SR.no (h : SR K S ι H σ ρ) (i : Nat) : SR K S ι H (σ.set i none) (ρ.set i .no) := by
 refine ⟨by simp [h.len], fun j s q => ?_⟩
 by_cases hj : i = j
 · subst hj
   have hl : i < ρ.length := by
     have := (List.getElem?_eq_some_iff.mp q).1
     simpa using this
   rw [List.getElem?_set_self hl] at q
   cases Option.some.inj q
   trivial
 · rw [List.getElem?_set_ne hj] at q ⊢
   exact h.ix j s q
theorem SR.wipe (h : SR K S ι H σ ρ) : ∀ vs : List Nat, SR K S ι H (wipe σ vs) (wipeE ρ vs)
 | [] => h
 | v :: vs => (SR.wipe h vs).no v
end
def EndG (W : Wd) (wx : WX) (σ : St) (ι : Io) (H : Hp) {α β : Type} (rel : Io → Hp → β → α → Prop) (Q : β → Hp → Prop) : R α → Prop
 | .ok z M => ∀ ι' v H', Ext ι H ι' H' → MI W ι' H' M → rel ι' H' v z → Q v H'
 | .ex e M => ∀ ι' dx H', Ext ι H ι' H' → MI W ι' H' M → ExF W.K ι' H' dx e.fs → wx (W.cv e.c) dx σ H'
 | .bad => False
theorem EndG.mono {W : Wd} {wx : WX} {σ : St} {ι ι1 : Io} {H H1 : Hp} {α β : Type} {rel : Io → Hp → β → α → Prop} {Q : β → Hp → Prop} {r : R α} (e : Ext ι H ι1 H1) (h : EndG W wx σ ι H rel Q r) : EndG W wx σ ι1 H1 rel Q r := by
 cases r with
 | ok z M => exact fun ι' v H' ex => h ι' v H' (e.trans ex)
 | ex x M => exact fun ι' dx H' ex => h ι' dx H' (e.trans ex)
 | bad => exact h
theorem EndG.step {W : Wd} {wx : WX} {σ : St} {ι : Io} {H : Hp} {α β γ δ : Type} {rel : Io → Hp → β → α → Prop} {rel2 : Io → Hp → δ → γ → Prop} {Q : δ → Hp → Prop} {G : β → Hp → Prop} {r : R α} {f : α → Mem → R γ}
   (h : EndG W wx σ ι H rel2 Q (r.bind f)) (g : ∀ z M1 ι1 v1 H1, Ext ι H ι1 H1 → MI W ι1 H1 M1 → rel ι1 H1 v1 z → EndG W wx σ ι1 H1 rel2 Q (f z M1) → G v1 H1) : EndG W wx σ ι H rel G r := by
 cases r with
 | ok z M => exact fun ι1 v1 H1 ex m d => g z M ι1 v1 H1 ex m d (EndG.mono ex h)
 | ex x M => exact h
 | bad => exact h
theorem EndG.now {W : Wd} {wx : WX} {σ : St} {ι : Io} {H : Hp} {α β : Type} {rel : Io → Hp → β → α → Prop} {Q : β → Hp → Prop} {z : α} {M : Mem} {v : β} (h : EndG W wx σ ι H rel Q (.ok z M)) (m : MI W ι H M) (d : rel ι H v z) : Q v H :=
 h ι v H (Ext.refl ι H) m d
structure Rl (W : Wd) (S : Sc) (ι : Io) (σ : St) (H : Hp) (ρ : Env) (M : Mem) : Prop where
 s : SR W.K S ι H σ ρ
 m : MI W ι H M
theorem Rl.go {W : Wd} {S : Sc} {ι ι1 : Io} {σ : St} {H H1 : Hp} {ρ : Env} {M M1 : Mem} (h : Rl W S ι σ H ρ M) (e : Ext ι H ι1 H1) (m : MI W ι1 H1 M1) : Rl W S ι1 σ H1 ρ M1 := ⟨h.s.mono e, m⟩
def tG (W : Wd) (S : Sc) (wx : WX) {α β : Type} (rel : Io → Hp → β → α → Prop) (f : Env → Mem → R α) : St → Hp → (β → Hp → Prop) → Prop := fun σ H Q =>
 ∃ ι ρ M, Rl W S ι σ H ρ M ∧ EndG W wx σ ι H rel Q (f ρ M)
abbrev tD (W : Wd) (S : Sc) (wx : WX) (f : Env → Mem → R Z) : TE := tG W S wx (DenZ W.K) f
def relB : Io → Hp → Bool → Bool → Prop := fun _ _ a b => a = b
abbrev tDT (W : Wd) (S : Sc) (wx : WX) (f : Env → Mem → R Bool) : TT := tG W S wx relB f
abbrev tDs (W : Wd) (S : Sc) (wx : WX) (f : Env → Mem → R (List Z)) : TA := tG W S wx (DenZL W.K) f
def relO : Io → Hp → Option Int → Option Int → Prop := fun _ _ a b => a = b
abbrev tDO (W : Wd) (S : Sc) (wx : WX) (f : Env → Mem → R (Option Int)) : TO := tG W S wx relO f
theorem _root_.L2.PE.imp {X : Cx} {e : Expr} {t u : TE} (h : PE X e t) (i : ∀ σ H Q, u σ H Q → t σ H Q) : PE X e u := ⟨fun pins s σ H Q I q => h.run pins s σ H Q I (i σ H Q q)⟩
theorem _root_.L2.PT.imp {X : Cx} {e : Expr} {t u : TT} (h : PT X e t) (i : ∀ σ H Q, u σ H Q → t σ H Q) : PT X e u := ⟨fun pins s σ H Q I q => h.run pins s σ H Q I (i σ H Q q)⟩
theorem _root_.L2.PA.imp {X : Cx} {e : List Expr} {t u : TA} (h : PA X e t) (i : ∀ σ H Q, u σ H Q → t σ H Q) : PA X e u := ⟨fun pos pins s σ H Q I q => h.run pos pins s σ H Q I (i σ H Q q)⟩
theorem _root_.L2.PS.imp {X : Cx} {e : Stmt} {t u : TS} (h : PS X e t) (i : ∀ D σ H, u D σ H → t D σ H) : PS X e u := ⟨fun pins s σ H D I q => h.run pins s σ H D I (i D σ H q)⟩
theorem _root_.L2.PSs.imp {X : Cx} {e : List Stmt} {t u : TS} (h : PSs X e t) (i : ∀ D σ H, u D σ H → t D σ H) : PSs X e u := ⟨fun pins s σ H D I q => h.run pins s σ H D I (i D σ H q)⟩
def rZ (W : Wd) (g : D → D → Option D) : R2 := fun x y H Q => ∃ ι M a b z, MI W ι H M ∧ Den W.K ι H x a ∧ Den W.K ι H y b ∧ g a b = some z ∧ ∀ v H', Ext ι H ι H' → MI W ι H' M → Den W.K ι H' v z → Q v H'
end Zt
namespace Zt
open PySem PySem.Spec PyProof.Rows L2
section
variable {prog : Program} {w : World} {A : Around} {E : Value → Shared → Prop} {s : Shared}
theorem strsAre_signs : ∀ (l : List Nat) (vs : List Value), vs.length = l.length → (∀ (j : Nat) (v : Value), vs[j]? = some v → ∃ (c : Nat) (u : Tok), l[j]? = some c ∧ v = Value.str ⟨#[c]⟩ u) → StrsAre vs (l.map fun c => (⟨#[c]⟩ : Str))
 | [], [], _, _ => .nil
 | [], _ :: _, h, _ => nomatch h
 | _ :: _, [], h, _ => nomatch h
 | c :: l, v :: vs, h, k => by
   obtain ⟨c', u, h1, h2⟩ := k 0 v rfl
   cases h1
   subst h2
   exact .cons _ u (strsAre_signs l vs (by simpa using h) fun j w hw => k (j + 1) w hw)
theorem collect_text {x : Str} {t : Tok} {Q : List Value → Shared → Prop} (hh : A.handled = none) (hz : x.cps.size ≤ sizeLine)
   (hQ : ∀ s' acc, (∀ b o, s.heap.get? b = some o → s'.heap.get? b = some o) → s.heap.objs.size ≤ s'.heap.objs.size → s'.gens = s.gens → s'.os = s.os → ItemsOf (SignAt x) acc x.cps.size → Q acc.toList s') : wpAny (model prog w) A (collect (.str x t)) Q E s := by
 unfold collect
 refine wpAny_bind (wpAny_runValue (codeAny_builtin F.entry_proto_collect ?_))
 rw [Around.under_plainId F.plain_proto_collect _]
 refine wpAny_bind (m := newList []) (wpAny_newObj_type (wpAny_pure ⟨plainId_quiet F.plain_list_iadd _, codeAny_builtin F.entry_list_iadd ?_⟩))
 rw [Around.under_plainId F.plain_list_iadd _]
 refine wpAny_mono (wpAny_extend_str (R := fun r s' => ∃ h' tk acc c', r = .ok (.ret (.ref s.heap.objs.size)) ∧ (∀ b o, s.heap.get? b = some o → h'.get? b = some o) ∧ h'.get? s.heap.objs.size = some { cls := .type "list", dict := none, data := .seq acc c', slots := #[] } ∧ ItemsOf (SignAt x) acc x.cps.size ∧ s' = { s with heap := h', toks := tk }) (A := A) (hn := hz) hh x t s.heap.objs.size _ 0 (Heap.get?_push_size _ rfl) fun h' tk acc c k hS' hacc => ⟨h', tk, acc, c, rfl, fun b o e => k b o (Nat.ne_of_lt (Heap.lt_size e)) (Heap.get?_push_of_some _ e), hS', hacc, rfl⟩) ?_ ?_
 · intro fin s' q
   cases fin with
   | done f =>
     obtain ⟨h', tk, acc, c, e1, k, hS', hacc, e2⟩ := q
     cases e1
     subst e2
     exact wpAny_bind (wpAny_load hS' (wpAny_pure (hQ _ acc k (Nat.le_of_lt (Heap.lt_size hS')) rfl rfl hacc)))
   | again c =>
     refine ⟨q.1, codeAny_mono q.2 fun r s2 z => ?_⟩
     obtain ⟨h', tk, acc, c, e1, k, hS', hacc, e2⟩ := z
     subst e1
     subst e2
     exact wpAny_bind (wpAny_load hS' (wpAny_pure (hQ _ acc k (Nat.le_of_lt (Heap.lt_size hS')) rfl rfl hacc)))
 · intro e s' q
   obtain ⟨h', tk, acc, c, e1, _⟩ := q
   cases e1
theorem sorted_text {x : Str} {t : Tok} {Q : Value → Shared → Prop} (hh : A.handled = none) (h64 : x.cps.size < 64)
   (hQ : ∀ s' p (out : Array Value) (c : Nat) (ss' : List Str), (∀ b o, s.heap.get? b = some o → s'.heap.get? b = some o) → s'.gens = s.gens → s'.os = s.os → s.heap.objs.size ≤ p →
     s'.heap.get? p = some (seqObj "list" out c) → StrsAre out.toList ss' → ss'.Perm (x.cps.toList.map fun c => (⟨#[c]⟩ : Str)) → sortedS ss' = true → Q (.ref p) s') :
   wpAny (model prog w) A (call (.builtin "sorted") [.str x t]) Q E s := by
 have hz : x.cps.size ≤ sizeLine := Nat.le_trans (Nat.le_of_lt h64) (by decide +kernel)
 refine Calls.call_function_entry kind_sorted plain_sorted entry_sorted (args_sorted1 _) ?_
 unfold Builtin.«sorted»
 refine wpAny_bind (m := checkCount "sorted" 1 1 _) (wpAny_pure ?_)
 refine wpAny_bind (collect_text (A := A.in1) hh hz fun s1 acc k1 hsz g1 o1 hacc => ?_)
 have hS : StrsAre acc.toList (x.cps.toList.map fun c => (⟨#[c]⟩ : Str)) := strsAre_signs _ _ (by simpa using hacc.1) fun j v hv => by
   obtain ⟨c, u, h1, h2⟩ := hacc.2 j v (by simpa using hv)
   exact ⟨c, u, by simpa using h1, h2⟩
 have hl : acc.toList.length = x.cps.size := by simpa using hacc.1
 refine wpAny_bind (wpAny_newList ?_ (by rw [hl]; exact hz))
 have hoL : (s1.heap.push (seqObj "list" acc.toList.toArray 0)).get? s1.heap.objs.size = some (seqObj "list" acc.toList.toArray 0) := Heap.get?_push_size _ rfl
 refine wpAny_bind (wpAny_holding (wpAny_call_entry slot_list_sort ⟨_, hoL, rfl⟩ entry_list_sort (list_sort_treeK strKind_oneLt hoL hS.keysOf (fun v₁ v₂ rest e => keyKind_strs (by rw [← e]; exact hS)) (by rw [hl]; exact h64) fun st' a1 a2 => ⟨_, rfl, ?_⟩) (args_list_sort _)))
 obtain ⟨ss', h1, h2, h3⟩ := sorted_out_str hS a1 a2
 obtain ⟨c, hc⟩ := sortedHeap_at (vs := acc.toList) (out := (arrOf st').map (·.2)) hoL
 refine wpAny_pure ⟨_, rfl, hQ _ s1.heap.objs.size _ c ss' (fun b u e => ?_) g1 o1 hsz hc h1 h2 h3⟩
 have q := k1 b u e
 have hlt := Heap.lt_size q
 show (sortedHeap (s1.heap.push (seqObj "list" acc.toList.toArray 0)) s1.heap.objs.size acc.toList _).get? b = some u
 rw [sortedHeap_old (Nat.ne_of_lt hlt) (by rw [size_push']; exact Nat.lt_succ_of_lt hlt)]
 exact Heap.get?_push_of_some _ q
end
section
variable {X : Cx}
theorem cr_sortedC (hc : X.calm = true) : CallR X (.builtin "sorted") (fun xs H Q => ∃ x : Str, xs = [.str x] ∧ x.length < 64 ∧ ∀ (ys : List Str) p, ys.Perm (x.cps.toList.map fun c => (⟨#[c]⟩ : Str)) → sortedS ys = true → H p = none → Q (.ref p) (upd H p (.lst (ys.map V.str)))) := by
 intro pins s σ H vs us Q I r h
 obtain ⟨x, rfl, h64, q⟩ := h
 obtain ⟨u, rfl, t, rfl⟩ := vals1 r
 refine sorted_text (I.ok.hd hc) h64 fun s' p out c ns k g o hp hg hi hm hs => ?_
 have hlen : (ns.map V.str).length ≤ sizeLine := by rw [List.length_map, hm.length_eq, List.length_map]; exact small64 (by rw [Array.length_toList]; exact h64)
 have hn : H p = none := I.hok.fresh hp
 have J : Inv X pins σ (upd H p (.lst (ns.map V.str))) { s with heap := s'.heap, gens := s'.gens, drawn := s'.drawn, toks := s'.toks } :=
   I.call (ch := []) (Un.laid k hp hn) (I.hok.laid k hp ⟨hlen, out.toList, c, vals_of_strs hi, hg⟩) (by rw [g]; exact I.bare) (fun _ z => nomatch z)
 have e : s' = { s with heap := s'.heap, gens := s'.gens, drawn := s'.drawn, toks := s'.toks } := by
   cases s'
   cases s
   cases o
   rfl
 rw [e]
 exact ⟨.ref p, _, J, rfl, q ns p hm hs hn⟩
theorem op_add_bi : OpR X (binaryOp .Add) (fun x y H Q => ∃ (k : Bool) (i : Int), x = .bl k ∧ y = .int i ∧ Q (.int ((if k = true then 1 else 0) + i)) H) := by
 intro pins s σ H x y v u Q I rx ry h
 obtain ⟨k, i, rfl, rfl, q⟩ := h
 cases rx
 obtain ⟨t, rfl⟩ := ry
 exact IntBool.add_bool_int ⟨.int _, H, I.tok _, ⟨_, rfl⟩, q⟩
theorem op_sub_bi : OpR X (binaryOp .Sub) (fun x y H Q => ∃ (k : Bool) (i : Int), x = .bl k ∧ y = .int i ∧ Q (.int ((if k = true then 1 else 0) - i)) H) := by
 intro pins s σ H x y v u Q I rx ry h
 obtain ⟨k, i, rfl, rfl, q⟩ := h
 cases rx
 obtain ⟨t, rfl⟩ := ry
 exact IntBool.sub_bool_int ⟨.int _, H, I.tok _, ⟨_, rfl⟩, q⟩
theorem op_mul_ib : OpR X (binaryOp .Mult) (fun x y H Q => ∃ (i : Int) (k : Bool), x = .int i ∧ y = .bl k ∧ Q (.int (i * (if k = true then 1 else 0))) H) := by
 intro pins s σ H x y v u Q I rx ry h
 obtain ⟨i, k, rfl, rfl, q⟩ := h
 cases ry
 obtain ⟨t, rfl⟩ := rx
 exact IntBool.mul_int_bool ⟨.int _, H, I.tok _, ⟨_, rfl⟩, q⟩
theorem call_str_bl : CallR X (.type "str") (fun xs H Q => ∃ b, xs = [.bl b] ∧ Q (.str (if b then "True" else "False")) H) := by
 intro pins s σ H xs us Q I r h
 obtain ⟨b, rfl, q⟩ := h
 obtain ⟨u, rfl, r1⟩ := vals1 r
 cases r1
 exact PySem.P.str_of_bool ⟨.str _, H, I.tok _, ⟨_, rfl⟩, q⟩
theorem call_str_err (hu : X.A.units + 2 < cLine) : CallR X (.type "str") (fun xs H Q => ∃ (a t C : Addr) (y : Str), xs = [.ref a] ∧ StrC X.K C ∧ H a = some (exT a C t) ∧ H t = some (.tup [.str y]) ∧ Q (.str y) H) := by
 intro pins s σ H xs us Q I r h
 obtain ⟨a, t, C, y, rfl, hC, ha, ht, q⟩ := h
 obtain ⟨u, rfl, r1⟩ := vals1 r
 cases r1
 obtain ⟨he, _, _⟩ := I.hok a _ ha
 obtain ⟨_, its, hv, o, e1, e2, n, e3⟩ := I.hok t _ ht
 cases hv with
 | cons rv rr =>
   cases rr
   obtain ⟨tk, rfl⟩ := rv
   exact PySem.P.str_of_C_one hu (K := X.K) (C := C) (t0 := t) ⟨I.kIn, _, _, he, rfl, rfl, rfl⟩ ⟨o, n, e1, e2, e3⟩ hC.1 hC.2 ⟨.str y, H, I, ⟨_, rfl⟩, q⟩
end
end Zt
namespace Zt
open PySem PySem.Spec PyProof.Rows L2
section
variable {W : Wd} {X : Cx}
def BOp.x : BOp → Operator
 | .add => .Add
 | .sub => .Sub
 | .mul => .Mult
 | .fdiv => .FloorDiv
 | .mod => .Mod
 | .pow => .Pow
theorem sl_of {n : Nat} (h : n ≤ slen) : n ≤ sizeLine := Nat.le_trans h (by decide +kernel)
theorem ll_of {n : Nat} (h : n ≤ llen) : n ≤ sizeLine := Nat.le_trans h (by decide +kernel)
theorem sl_lt {n : Nat} (h : n < slen) : n < sizeLine := Nat.lt_of_lt_of_le h (by decide +kernel)
theorem no_some {α : Type} {z : α} (h : (none : Option α) = some z) : False := by cases h
theorem mulB {i j : Int} (h : i.natAbs.log2 + j.natAbs.log2 < 100000000) : IntMulOk i j := by
 have few : ∀ x : Int, Builtin.Int.intBits x ≤ x.natAbs.log2 + 1 := fun x => by
   unfold Builtin.Int.intBits
   split <;> omega
 have f1 := few i
 have f2 := few j
 have line : bitsLine = 134217728 := by decide
 unfold IntMulOk
 intro z
 rw [Bool.and_eq_true] at z
 have big := z.2
 unfold Builtin.Int.intTooBig at big
 have big2 := of_decide_eq_true big
 rw [line] at big2
 omega
theorem op_mulB : OpR X (binaryOp .Mult) (rI (fun i j => i.natAbs.log2 + j.natAbs.log2 < 100000000) fun i j => .int (i * j)) := opI fun _ _ _ _ _ _ _ hc q => mul_int q (mulB hc)
theorem mulOkS {x : Str} {n : Int} (h : 2 ≤ n ∧ n ≤ 1000 ∧ x.length ≤ 100) : MulOk x n := by
 obtain ⟨h1, h2, h3⟩ := h
 refine ⟨?_, fun _ _ => ?_, fun _ _ => ?_⟩
 · simp
   omega
 · have : (100 : Int) ≤ (2 ^ 63 - 1) / n := (Int.le_ediv_iff_mul_le (by omega)).mpr (by omega)
   omega
 · have : x.length * n.toNat ≤ 100 * 1000 := Nat.mul_le_mul h3 (by omega)
   have h4 : (100000 : Nat) ≤ sizeLine := by decide +kernel
   simp only [Builtin.Str.tooLong, decide_eq_false_iff_not]
   omega
theorem op_mulS : OpR X (binaryOp .Mult) (fun x y H Q => ∃ i j, x = .str i ∧ y = .int j ∧ MulOk i j ∧ Q (.str (Txt.mul i j)) H) := by
 rintro pins s σ H _ _ v u Q I rx ry ⟨i, j, rfl, rfl, ok, q⟩
 obtain ⟨t, rfl⟩ := rx
 obtain ⟨t2, rfl⟩ := ry
 exact SB.mul ok fun t k => ⟨V.str (Txt.mul i j), H, ⟨I.ok, I.os, I.bare, I.base, I.loc, I.cell, I.free, I.freeC, I.pin, I.hok, I.len⟩, ⟨t, rfl⟩, q⟩
theorem op_bin (hK : X.K = W.K) (op : BOp) : OpR X (binaryOp op.x) (rZ W (bop op)) := by
 intro pins s σ H x y v u Q I rx ry h
 obtain ⟨ι, M, a, b, z, m, dx, dy, e, q⟩ := h
 have now : ∀ w : V, Den W.K ι H w z → Q w H := fun w d => q w H (Ext.refl ι H) m d
 cases op <;> cases a <;> cases b <;> try (exact (no_some (show (none : Option D) = some z from e)).elim)
 · cases dx; cases dy; cases Option.some.inj e
   exact op_add_bi pins s σ H _ _ v u Q I rx ry ⟨_, _, rfl, rfl, now _ (.int _)⟩
 · cases dx; cases dy; cases Option.some.inj e
   exact op_add pins s σ H _ _ v u Q I rx ry ⟨_, _, rfl, rfl, now _ (.int _)⟩
 · cases dx; cases dy
   simp only [bop] at e
   split at e
   · cases Option.some.inj e
     rename_i hl
     exact op_add_str pins s σ H _ _ v u Q I rx ry ⟨_, _, rfl, rfl, sl_of hl, now _ (.str _)⟩
   · cases e
 · simp only [bop] at e
   split at e
   · cases Option.some.inj e
     rename_i hl
     obtain ⟨p, xs, rfl, h1, _, l1⟩ := dx.list_inv
     obtain ⟨p2, ys, rfl, h2, _, l2⟩ := dy.list_inv
     exact op_cat pins s σ H _ _ v u Q I rx ry ⟨p, p2, xs, ys, rfl, rfl, h1.2, h2.2, ll_of (by rw [l1.length, l2.length]; exact hl), fun p3 h3 => q _ _ (Ext.new h3) (m.new h3) (.newL m.has h3 (l1.append l2))⟩
   · cases e
 · simp only [bop] at e
   split at e
   · cases Option.some.inj e
     rename_i hl
     obtain ⟨p, xs, rfl, h1, s1, l1⟩ := id dx.tup_inv
     obtain ⟨p2, ys, rfl, h2, s2, l2⟩ := id dy.tup_inv
     refine op_catA pins s σ H _ _ v u Q I rx ry ⟨p, p2, xs, ys, rfl, rfl, by rw [hK]; exact s1, by rw [hK]; exact s2, ll_of (by rw [l1.length, l2.length]; exact hl), ?_, ?_, ?_⟩
     · intro e1
       subst e1
       cases l1
       exact now _ dy
     · intro e0 e1
       subst e1
       cases l2
       rw [List.append_nil] at now
       exact now _ dx
     · intro _ _ p3 h3
       exact q _ _ (Ext.new h3) (m.new h3) (.newT m.has h3 (l1.append l2))
   · cases e
 · cases dx; cases dy; cases Option.some.inj e
   exact op_sub_bi pins s σ H _ _ v u Q I rx ry ⟨_, _, rfl, rfl, now _ (.int _)⟩
 · cases dx; cases dy; cases Option.some.inj e
   exact op_sub pins s σ H _ _ v u Q I rx ry ⟨_, _, rfl, rfl, now _ (.int _)⟩
 · cases dx; cases dy; cases Option.some.inj e
   exact op_mul_ib pins s σ H _ _ v u Q I rx ry ⟨_, _, rfl, rfl, now _ (.int _)⟩
 · cases dx; cases dy
   simp only [bop] at e
   split at e
   · cases Option.some.inj e
     rename_i hl
     exact op_mulB pins s σ H _ _ v u Q I rx ry ⟨_, _, rfl, rfl, hl, now _ (.int _)⟩
   · cases e
 · cases dx; cases dy
   simp only [bop] at e
   split at e
   · cases Option.some.inj e
     rename_i hl
     exact op_mulS pins s σ H _ _ v u Q I rx ry ⟨_, _, rfl, rfl, mulOkS hl, now _ (.str _)⟩
   · cases e
 · cases dy
   simp only [bop] at e
   split at e
   · cases Option.some.inj e
     rename_i i hl
     obtain ⟨p, xs, rfl, h1, _, l1⟩ := dx.list_inv
     have hs : (slen : Int) < 2 ^ 62 := by decide +kernel
     exact op_rep pins s σ H _ _ v u Q I rx ry ⟨p, i, xs, rfl, rfl, h1.2, by omega, by omega, sl_of (by rw [l1.length]; exact hl.2.2), fun p3 h3 => q _ _ (Ext.new h3) (m.new h3) (.newL m.has h3 (l1.rep _))⟩
   · cases e
 · cases dy
   simp only [bop] at e
   split at e
   · cases Option.some.inj e
     rename_i i hl
     obtain ⟨p, xs, rfl, h1, s1, l1⟩ := dx.tup_inv
     refine op_repT pins s σ H _ _ v u Q I rx ry ⟨p, i, xs, rfl, rfl, by rw [hK]; exact s1, ?_, hl.2.1, hl.2.2.1, by rw [l1.length]; exact hl.2.2.2, fun p3 h3 => q _ _ (Ext.new h3) (m.new h3) (.newT m.has h3 (l1.rep _))⟩
     intro e1
     subst e1
     cases l1
     exact absurd hl.1 (fun z => nomatch z)
   · cases e
 · cases dx; cases dy
   simp only [bop] at e
   split at e
   · cases Option.some.inj e
     rename_i hl
     exact op_fdivW pins s σ H _ _ v u Q I rx ry ⟨_, _, rfl, rfl, hl, now _ (.int _)⟩
   · cases e
 · cases dx; cases dy
   simp only [bop] at e
   split at e
   · cases Option.some.inj e
     rename_i i j hl
     refine op_modN pins s σ H _ _ v u Q I rx ry ⟨_, _, rfl, rfl, by omega, ?_⟩
     show Q (.int (i.fmod j)) H
     rw [Int.fmod_eq_emod_of_nonneg i (by omega)]
     exact now _ (.int _)
   · cases e
 · cases dx; cases dy
   simp only [bop] at e
   split at e
   · cases Option.some.inj e
     rename_i hl
     exact op_pow pins s σ H _ _ v u Q I rx ry ⟨_, _, rfl, rfl, hl, now _ (.int _)⟩
   · cases e
def COp.x : COp → CmpOp
 | .eq => .Eq
 | .ne => .NotEq
 | .lt => .Lt
 | .le => .LtE
 | .gt => .Gt
 | .ge => .GtE
 | .inn => .In
 | .nin => .NotIn
 | .is => .Is
 | .isn => .IsNot
def rB (W : Wd) (g : D → D → Option Bool) : R2 := fun x y H Q => ∃ ι M a b k, MI W ι H M ∧ Den W.K ι H x a ∧ Den W.K ι H y b ∧ g a b = some k ∧ Q (.bl k) H
theorem den_non {K : PySem.W.Frag} {ι : Io} {H : Hp} {v : V} {d : D} (h : Den K ι H v d) : decide (v = .non) = (match d with | .none => true | _ => false) := by
 cases h <;> first | rfl | exact decide_eq_false (fun z => nomatch z)
theorem op_inT {X : Cx} (hu : X.A.units + 65 < cLine) : OpR X (compareOp .In) (fun x y H Q => ∃ d ds, Dp X.K H x d ∧ Dp X.K H y (.tuple ds) ∧ SeqAt.shaped d = true ∧ SeqAt.shaped (.tuple ds) = true ∧ Q (.bl (ds.any fun z => PyData.eqv z d)) H) := by
 intro pins s σ H x y v u Q I rx ry h
 obtain ⟨d, ds, hd, he, sd, se, q⟩ := h
 obtain ⟨as, r1⟩ := Dp.reads I d x v hd rx
 obtain ⟨bs, r2⟩ := Dp.reads I (.tuple ds) y u he ry
 exact SeqAt.in_tuple_reads r2 r1 (SeqAt.canLay_of_shaped se) (SeqAt.canLay_of_shaped sd) (room_in_shaped sd hu) ⟨.bl _, H, I, rfl, q⟩
theorem op_notInT {X : Cx} (hu : X.A.units + 65 < cLine) : OpR X (compareOp .NotIn) (fun x y H Q => ∃ d ds, Dp X.K H x d ∧ Dp X.K H y (.tuple ds) ∧ SeqAt.shaped d = true ∧ SeqAt.shaped (.tuple ds) = true ∧ Q (.bl (!ds.any fun z => PyData.eqv z d)) H) := by
 intro pins s σ H x y v u Q I rx ry h
 obtain ⟨d, ds, hd, he, sd, se, q⟩ := h
 obtain ⟨as, r1⟩ := Dp.reads I d x v hd rx
 obtain ⟨bs, r2⟩ := Dp.reads I (.tuple ds) y u he ry
 exact SeqAt.notIn_tuple_reads r2 r1 (SeqAt.canLay_of_shaped se) (SeqAt.canLay_of_shaped sd) (room_in_shaped sd hu) ⟨.bl _, H, I, rfl, q⟩
theorem op_is_nb {X : Cx} : OpR X (compareOp .Is) (fun x y H Q => ∃ b, x = .non ∧ y = .bl b ∧ Q (.bl false) H) := by
 intro pins s σ H x y v u Q I rx ry h
 obtain ⟨b, rfl, rfl, q⟩ := h
 cases (show v = Value.none from rx)
 cases (show u = Value.bool b from ry)
 exact wpAny_is_other rfl (fun z => nomatch z) ⟨.bl false, H, I, rfl, q⟩
theorem op_cmp (hK : X.K = W.K) (hu : X.A.units + 65 < cLine) (op : COp) : OpR X (compareOp op.x) (rB W (cop op)) := by
 intro pins s σ H x y v u Q I rx ry h
 obtain ⟨ι, M, a, b, k, m, dx, dy, e, q⟩ := h
 have hu' : X.A.units + 64 < cLine := by omega
 cases op with
 | eq =>
   simp only [cop] at e
   split at e
   · rename_i hs
     rw [Bool.and_eq_true] at hs
     cases Option.some.inj e
     exact op_eqD hu' pins s σ H x y v u Q I rx ry ⟨a, b, by rw [hK]; exact dx.dp (SeqAt.canLay_of_shaped hs.1), by rw [hK]; exact dy.dp (SeqAt.canLay_of_shaped hs.2), hs.1, hs.2, q⟩
   · cases e
 | ne =>
   simp only [cop] at e
   split at e
   · rename_i hs
     rw [Bool.and_eq_true] at hs
     cases Option.some.inj e
     exact op_neD hu' pins s σ H x y v u Q I rx ry ⟨a, b, by rw [hK]; exact dx.dp (SeqAt.canLay_of_shaped hs.1), by rw [hK]; exact dy.dp (SeqAt.canLay_of_shaped hs.2), hs.1, hs.2, q⟩
   · cases e
 | lt =>
   cases a <;> cases b <;> try (exact (no_some (show (none : Option Bool) = some k from e)).elim)
   · cases dx; cases dy; cases Option.some.inj e
     exact op_lt pins s σ H _ _ v u Q I rx ry ⟨_, _, rfl, rfl, q⟩
   · cases dx; cases dy; cases Option.some.inj e
     exact op_lt_str pins s σ H _ _ v u Q I rx ry ⟨_, _, rfl, rfl, q⟩
 | le =>
   cases a <;> cases b <;> try (exact (no_some (show (none : Option Bool) = some k from e)).elim)
   · cases dx; cases dy; cases Option.some.inj e
     exact op_le pins s σ H _ _ v u Q I rx ry ⟨_, _, rfl, rfl, q⟩
 | gt =>
   cases a <;> cases b <;> try (exact (no_some (show (none : Option Bool) = some k from e)).elim)
   · cases dx; cases dy; cases Option.some.inj e
     exact op_gt pins s σ H _ _ v u Q I rx ry ⟨_, _, rfl, rfl, q⟩
   · cases dx; cases dy; cases Option.some.inj e
     exact op_gt_str pins s σ H _ _ v u Q I rx ry ⟨_, _, rfl, rfl, q⟩
 | ge =>
   cases a <;> cases b <;> try (exact (no_some (show (none : Option Bool) = some k from e)).elim)
   · cases dx; cases dy; cases Option.some.inj e
     exact op_ge pins s σ H _ _ v u Q I rx ry ⟨_, _, rfl, rfl, q⟩
 | inn =>
   cases b with
   | list ys =>
     simp only [cop] at e
     obtain ⟨p, xs, rfl, h1, s1, l1⟩ := id dy.list_inv
     split at e
     · rename_i hf
       rw [Bool.and_eq_true] at hf
       cases Option.some.inj e
       exact op_in_seq pins s σ H x _ v u Q I rx ry ⟨p, xs, rfl, .inl (by rw [hK]; exact s1), dx.flat hf.1, l1.flat hf.2, by rw [l1.inV dx hf.2 hf.1]; exact q⟩
     · split at e
       · rename_i hs
         rw [Bool.and_eq_true] at hs
         cases Option.some.inj e
         exact op_inD hu pins s σ H x _ v u Q I rx ry ⟨a, ys, by rw [hK]; exact dx.dp (SeqAt.canLay_of_shaped hs.1), by rw [hK]; exact dy.dp (SeqAt.canLay_of_shaped hs.2), hs.1, hs.2, q⟩
       · cases e
   | tuple ys =>
     simp only [cop] at e
     obtain ⟨p, xs, rfl, h1, s1, l1⟩ := id dy.tup_inv
     split at e
     · rename_i hf
       rw [Bool.and_eq_true] at hf
       cases Option.some.inj e
       exact op_in_seq pins s σ H x _ v u Q I rx ry ⟨p, xs, rfl, .inr (by rw [hK]; exact s1), dx.flat hf.1, l1.flat hf.2, by rw [l1.inV dx hf.2 hf.1]; exact q⟩
     · split at e
       · rename_i hs
         rw [Bool.and_eq_true] at hs
         cases Option.some.inj e
         exact op_inT hu pins s σ H x _ v u Q I rx ry ⟨a, ys, by rw [hK]; exact dx.dp (SeqAt.canLay_of_shaped hs.1), by rw [hK]; exact dy.dp (SeqAt.canLay_of_shaped hs.2), hs.1, hs.2, q⟩
       · cases e
   | str ys =>
     cases a <;> try (exact (no_some (show (none : Option Bool) = some k from e)).elim)
     cases dx; cases dy; cases Option.some.inj e
     exact op_in_str pins s σ H _ _ v u Q I rx ry ⟨_, _, rfl, rfl, q⟩
   | _ => cases a <;> exact (no_some (show (none : Option Bool) = some k from e)).elim
 | nin =>
   cases b with
   | list ys =>
     simp only [cop] at e
     obtain ⟨p, xs, rfl, h1, s1, l1⟩ := id dy.list_inv
     split at e
     · rename_i hf
       rw [Bool.and_eq_true] at hf
       cases Option.some.inj e
       exact op_notIn_seq pins s σ H x _ v u Q I rx ry ⟨p, xs, rfl, .inl (by rw [hK]; exact s1), dx.flat hf.1, l1.flat hf.2, by rw [l1.inV dx hf.2 hf.1]; exact q⟩
     · split at e
       · rename_i hs
         rw [Bool.and_eq_true] at hs
         cases Option.some.inj e
         exact op_notInD hu pins s σ H x _ v u Q I rx ry ⟨a, ys, by rw [hK]; exact dx.dp (SeqAt.canLay_of_shaped hs.1), by rw [hK]; exact dy.dp (SeqAt.canLay_of_shaped hs.2), hs.1, hs.2, q⟩
       · cases e
   | tuple ys =>
     simp only [cop] at e
     obtain ⟨p, xs, rfl, h1, s1, l1⟩ := id dy.tup_inv
     split at e
     · rename_i hf
       rw [Bool.and_eq_true] at hf
       cases Option.some.inj e
       exact op_notIn_seq pins s σ H x _ v u Q I rx ry ⟨p, xs, rfl, .inr (by rw [hK]; exact s1), dx.flat hf.1, l1.flat hf.2, by rw [l1.inV dx hf.2 hf.1]; exact q⟩
     · split at e
       · rename_i hs
         rw [Bool.and_eq_true] at hs
         cases Option.some.inj e
         exact op_notInT hu pins s σ H x _ v u Q I rx ry ⟨a, ys, by rw [hK]; exact dx.dp (SeqAt.canLay_of_shaped hs.1), by rw [hK]; exact dy.dp (SeqAt.canLay_of_shaped hs.2), hs.1, hs.2, q⟩
       · cases e
   | str ys =>
     cases a <;> try (exact (no_some (show (none : Option Bool) = some k from e)).elim)
     cases dx; cases dy; cases Option.some.inj e
     exact op_notin_str pins s σ H _ _ v u Q I rx ry ⟨_, _, rfl, rfl, q⟩
   | _ => cases a <;> exact (no_some (show (none : Option Bool) = some k from e)).elim
 | is =>
   cases b with
   | none =>
     cases dy
     refine op_isN pins s σ H x _ v u Q I rx ry ⟨rfl, ?_⟩
     rw [den_non dx]
     cases a <;> (cases Option.some.inj e; exact q)
   | bool b =>
     cases a <;> try (exact (no_some (show (none : Option Bool) = some k from e)).elim)
     · cases dx; cases dy; cases Option.some.inj e
       exact op_is_nb pins s σ H _ _ v u Q I rx ry ⟨_, rfl, rfl, q⟩
     cases dx; cases dy; cases Option.some.inj e
     exact op_is_bl pins s σ H _ _ v u Q I rx ry ⟨_, _, rfl, rfl, q⟩
   | _ => cases a <;> exact (no_some (show (none : Option Bool) = some k from e)).elim
 | isn =>
   cases b with
   | none =>
     cases dy
     refine op_notN pins s σ H x _ v u Q I rx ry ⟨rfl, ?_⟩
     rw [den_non dx]
     cases a <;> (cases Option.some.inj e; exact q)
   | _ => cases a <;> exact (no_some (show (none : Option Bool) = some k from e)).elim
end
end Zt
namespace Zt
open PySem PySem.Spec PyProof.Rows L2
section
variable {P : Program} {w : World} {K : PySem.W.Frag} {ι : Io} {H : Hp} {h : Heap}
mutual
theorem nested_of (ok : HOk P w H h) (kin : K.In h) : ∀ {v : V} {d : PyData} {k : NestedKey} {u : Value}, Den K ι H v d → keyN d = some k → RelV v u → NestedIs h k u
 | _, _, _, _, .non, e, r => by
   cases e
   rw [show _ = Value.none from r]
   exact .none
 | _, _, _, _, .bl b, e, r => by
   cases e
   rw [show _ = Value.bool b from r]
   exact .bool rfl
 | _, _, _, _, .int i, e, r => by
   cases e
   obtain ⟨t, rfl⟩ := r
   exact .int i t
 | _, _, _, _, .str x, e, r => by
   cases e
   obtain ⟨t, rfl⟩ := r
   exact .text x t
 | _, _, _, _, .lst _ _, e, _ => by cases e
 | _, _, _, _, .tup (a := a) h1 l, e, r => by
   obtain ⟨ks, e1, rfl⟩ := Option.map_eq_some_iff.mp e
   rw [show _ = Value.ref a from r]
   rcases h1 with ⟨_, h1⟩ | ⟨⟨o, its, n, h1, h2, h3, _, h4⟩, _⟩
   · obtain ⟨_, its, vs, o, h2, h3, n, h4⟩ := ok _ _ h1
     exact .tup h2 h3 h4 (nested_all ok kin l e1 vs)
   · exact .tup (kin _ _ h1) h2 h3 (nested_all ok kin l e1 h4)
theorem nested_all (ok : HOk P w H h) (kin : K.In h) : ∀ {vs : List V} {ds : List PyData} {ks : List NestedKey} {us : List Value}, DenL K ι H vs ds → keyN.keyNs ds = some ks → Vals vs us → NestedAll h ks us
 | _, _, _, _, .nil, e, r => by
   cases e
   cases r
   exact .nil
 | _, _, _, _, .cons d l, e, r => by
   cases r with
   | cons r rs =>
     obtain ⟨k, e1, e2⟩ := Option.bind_eq_some_iff.mp (show (keyN _).bind (fun k => (keyN.keyNs _).map (k :: ·)) = some _ from e)
     obtain ⟨ks, e3, rfl⟩ := Option.map_eq_some_iff.mp e2
     exact .cons (nested_of ok kin d e1 r) (nested_all ok kin l e3 rs)
end
end
end Zt
namespace Zt
open PySem PySem.Spec PyProof.Rows L2
abbrev Nx := NestedKey × Addr × V
abbrev Ny := NestedKey × Addr × Value
def kvK (xs : List Nx) (kvs : List (D × D)) : List (NestedKey × D) := (xs.map (·.1)).zip (kvs.map (·.2))
def xsV (xs : List Nx) : List (NestedKey × V) := xs.map fun x => (x.1, x.2.2)
def putX (xs : List Nx) (k : NestedKey) (b : Addr) (v : V) : List Nx :=
 if (xs.any fun x => decide (x.1 = k)) = true then xs.map (fun x => if x.1 = k then (x.1, x.2.1, v) else x) else xs ++ [(k, b, v)]
def PN (x : Nx) (y : Ny) : Prop := x.1 = y.1 ∧ x.2.1 = y.2.1 ∧ RelV x.2.2 y.2.2
theorem tup_key {d : D} {k : NestedKey} (e : tupKey d = some k) : keyN d = some k ∧ k.depth ≤ 8 := by
 cases d with
 | tuple ds =>
   obtain ⟨k', e1, e2⟩ := Option.bind_eq_some_iff.mp (show (keyN (.tuple ds)).bind (fun k => if k.depth ≤ 8 then some k else none) = some k from e)
   split at e2
   · cases e2
     exact ⟨e1, ‹_›⟩
   · cases e2
 | _ => cases e
theorem kv_len {xs : List Nx} {kvs : List (D × D)} (h : xs.map (fun x => some x.1) = kvs.map fun kv => tupKey kv.1) : xs.length = kvs.length := by
 have := congrArg List.length h
 simpa using this
theorem look_kvK {k : NestedKey} : ∀ {xs : List Nx} {kvs : List (D × D)}, xs.map (fun x => some x.1) = kvs.map (fun kv => tupKey kv.1) → lookN kvs k = lookK (kvK xs kvs) k
 | [], [], _ => rfl
 | [], _ :: _, h => by cases h
 | _ :: _, [], h => by cases h
 | x :: xs, q :: kvs, h => by
   simp only [List.map_cons, List.cons.injEq] at h
   have hk := (tup_key h.1.symm).1
   have ih := look_kvK (k := k) h.2
   unfold lookN lookK at ih ⊢
   by_cases c : x.1 = k
   · simp [kvK, hk, c]
   · have c2 : ¬ (some x.1 = some k) := fun z => c (Option.some.inj z)
     rw [List.find?_cons_of_neg (by rw [hk]; simpa using c)]
     rw [show kvK (x :: xs) (q :: kvs) = (x.1, q.2) :: kvK xs kvs from rfl, List.find?_cons_of_neg (by simpa using c)]
     exact ih
theorem any_xs {k : NestedKey} : ∀ {xs : List Nx} {kvs : List (D × D)}, xs.map (fun x => some x.1) = kvs.map (fun kv => tupKey kv.1) → (xs.any fun x => decide (x.1 = k)) = kvs.any fun kv => decide (keyN kv.1 = some k)
 | [], [], _ => rfl
 | [], _ :: _, h => by cases h
 | _ :: _, [], h => by cases h
 | x :: xs, q :: kvs, h => by
   simp only [List.map_cons, List.cons.injEq] at h
   have hk := (tup_key h.1.symm).1
   rw [List.any_cons, List.any_cons, any_xs h.2, hk]
   congr 1
   simp
section
variable {K : PySem.W.Frag} {ι ι' : Io} {H H' : Hp} {a : Addr} {xs : List Nx} {kvs : List (D × D)}
theorem KvN.kvd (l : KvN K ι H a xs kvs) : KvD K ι H (xsV xs) (kvK xs kvs) := by
 have e := kv_len l.k
 refine ⟨?_, ?_⟩
 · simp only [xsV, kvK, List.map_map]
   rw [List.map_fst_zip (by simp [e])]
   rfl
 · simp only [xsV, kvK, List.map_map]
   rw [List.map_snd_zip (by simp [e])]
   exact l.v
theorem KvN.mono (l : KvN K ι H a xs kvs) (e : Ext ι H ι' H') : KvN K ι' H' a xs kvs := ⟨l.k, l.kd.mono e, l.v.mono e, l.nd, l.l, l.m⟩
theorem KvN.look (l : KvN K ι H a xs kvs) {k : NestedKey} {d : D} (e : lookN kvs k = some d) : ∃ v, valV (xsV xs) k = some v ∧ Den K ι H v d := by
 rw [look_kvK l.k] at e
 exact l.kvd.look e
theorem KvN.none (l : KvN K ι H a xs kvs) {k : NestedKey} (e : lookN kvs k = none) : valV (xsV xs) k = none := by
 have h1 : (xsV xs).any (fun kv => decide (kv.1 = k)) = (kvK xs kvs).any fun kv => decide (kv.1 = k) := l.kvd.any
 rw [valV_any] at h1
 rw [look_kvK l.k] at e
 cases q : valV (xsV xs) k with
 | none => rfl
 | some v =>
   rw [q] at h1
   have h2 : ((kvK xs kvs).find? fun kv => decide (kv.1 = k)) = Option.none := by
     unfold lookK at e
     exact Option.map_eq_none_iff.mp e
   have h3 : (kvK xs kvs).any (fun kv => decide (kv.1 = k)) = false := by
     rw [List.any_eq_false]
     intro x hx
     exact List.find?_eq_none.mp h2 x hx
   rw [h3] at h1
   cases h1
theorem KvN.put (l : KvN K ι H a xs kvs) {w : D} {k : NestedKey} {b : Addr} {v : V} {d : D} (hw : tupKey w = some k) (dw : Den K ι H (.ref b) w) (dv : Den K ι H v d) (hz : xs.length < sizeLine) : KvN K ι H a (putX xs k b v) (putN kvs w k d) := by
 unfold putX putN
 rw [any_xs l.k]
 split
 · have go : ∀ {xs : List Nx} {kvs : List (D × D)}, xs.map (fun x => some x.1) = kvs.map (fun kv => tupKey kv.1) → DenL K ι H (xs.map fun x => V.ref x.2.1) (kvs.map (·.1)) → DenL K ι H (xs.map (·.2.2)) (kvs.map (·.2)) →
       (xs.map fun x => if x.1 = k then (x.1, x.2.1, v) else x).map (fun x => some x.1) = (kvs.map fun kv => if keyN kv.1 = some k then (kv.1, d) else kv).map (fun kv => tupKey kv.1) ∧
       DenL K ι H ((xs.map fun x => if x.1 = k then (x.1, x.2.1, v) else x).map fun x => V.ref x.2.1) ((kvs.map fun kv => if keyN kv.1 = some k then (kv.1, d) else kv).map (·.1)) ∧
       DenL K ι H ((xs.map fun x => if x.1 = k then (x.1, x.2.1, v) else x).map (·.2.2)) ((kvs.map fun kv => if keyN kv.1 = some k then (kv.1, d) else kv).map (·.2)) := by
     intro xs
     induction xs with
     | nil =>
       intro kvs h h1 h2
       cases kvs with
       | nil => exact ⟨rfl, .nil, .nil⟩
       | cons _ _ => cases h
     | cons x xs ih =>
       intro kvs h h1 h2
       cases kvs with
       | nil => cases h
       | cons q kvs =>
         simp only [List.map_cons, List.cons.injEq] at h
         have hk := (tup_key h.1.symm).1
         cases h1 with
         | cons h1 l1 =>
         cases h2 with
         | cons h2 l2 =>
         obtain ⟨i1, i2, i3⟩ := ih h.2 l1 l2
         by_cases c : x.1 = k
         · have c' : keyN q.1 = some k := by rw [hk, c]
           simp only [List.map_cons, c, c', if_true]
           refine ⟨?_, .cons h1 i2, .cons dv i3⟩
           rw [i1, ← h.1, c]
         · have c' : ¬ keyN q.1 = some k := by rw [hk]; exact fun z => c (Option.some.inj z)
           simp only [List.map_cons, c, c', if_false]
           refine ⟨?_, .cons h1 i2, .cons h2 i3⟩
           rw [i1, ← h.1]
   obtain ⟨i1, i2, i3⟩ := go l.k l.kd l.v
   refine ⟨i1, i2, i3, ?_, by simpa using l.l, l.m⟩
   have e : (xs.map fun x => if x.1 = k then (x.1, x.2.1, v) else x).map (·.1) = xs.map (·.1) := by
     rw [List.map_map]
     refine List.map_congr_left fun x _ => ?_
     by_cases c : x.1 = k <;> simp [c]
   rw [e]
   exact l.nd
 · rename_i hn
   refine ⟨?_, ?_, ?_, ?_, by simp; omega, l.m⟩
   · simp only [List.map_append, List.map_cons, List.map_nil]
     rw [l.k, hw]
   · simp only [List.map_append, List.map_cons, List.map_nil]
     exact l.kd.append (.cons dw .nil)
   · simp only [List.map_append, List.map_cons, List.map_nil]
     exact l.v.append (.cons dv .nil)
   · simp only [List.map_append, List.map_cons, List.map_nil]
     refine List.nodup_append.mpr ⟨l.nd, by simp, fun y hy z hz2 => ?_⟩
     have ez : z = k := by simpa using hz2
     rw [ez]
     intro eq
     rw [← any_xs l.k] at hn
     refine hn (List.any_eq_true.mpr ?_)
     obtain ⟨x, hx, ex⟩ := List.mem_map.mp hy
     exact ⟨x, hx, by simpa using ex.trans eq⟩
end
section
variable {P : Program} {w : World} {H : Hp} {h : Heap} {a : Addr} {xs : List Nx}
theorem ents_of : ∀ {xs : List Nx} {es : List DictEntry}, Paired (EntN w) xs es → ∃ ys : List Ny, Paired PN xs ys ∧ es = ys.map (entryOfKey (nestedKind P w))
 | _, _, .nil => ⟨[], .nil, rfl⟩
 | _, _, .cons (a := x) (b := e) ⟨h1, h2, h3⟩ t => by
   obtain ⟨ys, p, rfl⟩ := ents_of t
   refine ⟨(x.1, x.2.1, e.val) :: ys, .cons ⟨rfl, rfl, h3⟩ p, ?_⟩
   rw [List.map_cons]
   congr 1
   cases e
   simp only at h1 h2
   subst h1 h2
   rfl
theorem ents_to : ∀ {xs : List Nx} {ys : List Ny}, Paired PN xs ys → Paired (EntN w) xs (ys.map (entryOfKey (nestedKind P w)))
 | _, _, .nil => .nil
 | _, _, .cons (a := x) (b := y) ⟨h1, h2, h3⟩ t => by
   rw [List.map_cons]
   exact .cons ⟨by rw [h1]; rfl, by rw [h2]; rfl, h3⟩ (ents_to t)
theorem PN.keys : ∀ {xs : List Nx} {ys : List Ny}, Paired PN xs ys → xs.map (·.1) = ys.map (·.1)
 | _, _, .nil => rfl
 | _, _, .cons h t => by rw [List.map_cons, List.map_cons, h.1, PN.keys t]
theorem PN.kv : ∀ {xs : List Nx} {ys : List Ny}, Paired PN xs ys → KV (xsV xs) (pairsH ys)
 | _, _, .nil => .nil
 | _, _, .cons h t => .cons ⟨h.1, h.2.2⟩ (PN.kv t)
theorem PN.val {xs : List Nx} {ys : List Ny} (p : Paired PN xs ys) (k : NestedKey) : RelO (valV (xsV xs) k) ((atKey ys k).map (·.2)) := by
 have := KV.val (PN.kv p) k
 rw [valueAt_pairsH] at this
 exact this
theorem PN.any {k : NestedKey} : ∀ {xs : List Nx} {ys : List Ny}, Paired PN xs ys → (xs.any fun x => decide (x.1 = k)) = (atKey ys k).isSome
 | _, _, .nil => rfl
 | _, _, .cons (a := x) (b := y) h t => by
   rw [List.any_cons, PN.any t, h.1]
   by_cases c : y.1 = k
   · simp [atKey, c]
   · simp [atKey, c]
theorem PN.rep {k : NestedKey} {v : V} {u : Value} (r : RelV v u) : ∀ {xs : List Nx} {ys : List Ny}, Paired PN xs ys → Paired PN (xs.map fun x => if x.1 = k then (x.1, x.2.1, v) else x) (ys.map (putAt k u))
 | _, _, .nil => .nil
 | _, _, .cons (a := x) (b := y) h t => by
   refine .cons ?_ (PN.rep r t)
   show PN (if x.1 = k then (x.1, x.2.1, v) else x) (putAt k u y)
   unfold putAt
   by_cases c : y.1 = k
   · rw [if_pos (h.1.trans c), if_pos c]
     exact ⟨h.1, h.2.1, r⟩
   · rw [if_neg (fun z => c (h.1.symm.trans z)), if_neg c]
     exact h
theorem PN.snoc {k : NestedKey} {b : Addr} {v : V} {u : Value} (r : RelV v u) : ∀ {xs : List Nx} {ys : List Ny}, Paired PN xs ys → Paired PN (xs ++ [(k, b, v)]) (ys ++ [(k, b, u)])
 | _, _, .nil => .cons ⟨rfl, rfl, r⟩ .nil
 | _, _, .cons h t => .cons h (PN.snoc r t)
theorem PN.put {xs : List Nx} {ys : List Ny} {k : NestedKey} {b : Addr} {v : V} {u : Value} (p : Paired PN xs ys) (r : RelV v u) : Paired PN (putX xs k b v) (storedH ys k b u) := by
 unfold putX storedH
 rw [PN.any p]
 split
 · exact PN.rep r p
 · exact PN.snoc r p
theorem raw_of (e : ObjOk P w H h a (.ext (rawN w a xs))) : ∃ ys : List Ny, Paired PN xs ys ∧ ∃ o es ep, h.get? a = some o ∧ o.ExactDict ∧ o.data = .dict es ep ∧ es.toList = ys.map (entryOfKey (nestedKind P w)) := by
 obtain ⟨⟨o, es, ep, h1, h2, h3, h4⟩, _, _⟩ := e
 obtain ⟨ys, p, q⟩ := ents_of (P := P) h4
 exact ⟨ys, p, o, es, ep, h1, h2, h3, q⟩
theorem raw_to {ys : List Ny} {o : Obj} {es : Array DictEntry} {ep : Nat} (p : Paired PN xs ys) (h1 : h.get? a = some o) (h2 : o.ExactDict) (h3 : o.data = .dict es ep) (h4 : es.toList = ys.map (entryOfKey (nestedKind P w))) : ObjOk P w H h a (.ext (rawN w a xs)) :=
 ⟨⟨o, es, ep, h1, h2, h3, by rw [h4]; exact ents_to p⟩, ⟨o, h1⟩, fun _ _ ⟨o, es, ep, g1, g2, g3, g4⟩ k => ⟨o, es, ep, k _ g1, g2, g3, g4⟩⟩
end
section
variable {P : Program} {w : World} {K : PySem.W.Frag} {ι : Io} {H : Hp} {h : Heap} {a : Addr} {xs : List Nx} {kvs : List (D × D)} {ys : List Ny}
theorem keys_is (ok : HOk P w H h) (kin : K.In h) : ∀ {xs : List Nx} {kvs : List (D × D)} {ys : List Ny}, xs.map (fun x => some x.1) = kvs.map (fun kv => tupKey kv.1) → DenL K ι H (xs.map fun x => V.ref x.2.1) (kvs.map (·.1)) → Paired PN xs ys →
   ∀ y ∈ ys, (nestedKind P w).is h y.1 y.2.1
 | [], _, _, _, _, .nil => fun _ hy => nomatch hy
 | _ :: _, [], _, e, _, _ => by cases e
 | x :: xs, q :: kvs, _, e, d, .cons (b := y) p t => by
   simp only [List.map_cons, List.cons.injEq] at e
   obtain ⟨e1, e2⟩ := tup_key e.1.symm
   cases d with
   | cons d l =>
   intro z hz
   rcases List.mem_cons.mp hz with rfl | hz
   · have n := nested_of ok kin d e1 (u := .ref x.2.1) rfl
     rw [p.1, p.2.1] at n
     rw [p.1] at e2
     exact ⟨n, e2⟩
   · exact keys_is ok kin e.2 l t z hz
theorem key_is {b : Addr} {d : D} {k : NestedKey} (ok : HOk P w H h) (kin : K.In h) (dd : Den K ι H (.ref b) d) (e : tupKey d = some k) : (nestedKind P w).is h k b := by
 obtain ⟨e1, e2⟩ := tup_key e
 exact ⟨nested_of ok kin dd e1 rfl, e2⟩
theorem tup_ref {v : V} {d : D} {k : NestedKey} (dd : Den K ι H v d) (e : tupKey d = some k) : ∃ b, v = .ref b := by
 cases dd with
 | tup _ _ => exact ⟨_, rfl⟩
 | _ => cases e
theorem dit_of {u : HO} (ok : HOk P w H h) (kin : K.In h) (e : H a = some u) (hu : u = .ext (rawN w a xs) ∨ ∃ o, u = .frz o (.ext (rawN w a xs))) (l : KvN K ι H a xs kvs) : ∃ ys, Paired PN xs ys ∧ h.DictOfH (nestedKind P w) a ys := by
 have ob := ok a _ e
 have ob : ObjOk P w H h a (.ext (rawN w a xs)) := by
   rcases hu with rfl | ⟨o, rfl⟩
   · exact ob
   · exact ob.2
 obtain ⟨ys, p, o, es, ep, h1, h2, h3, h4⟩ := raw_of ob
 refine ⟨ys, p, o, es, ep, h1, h2, h3, h4, keys_is ok kin l.k l.kd p, ?_⟩
 rw [← PN.keys p]
 exact l.nd
end
end Zt
namespace Zt
open PySem PySem.Spec PyProof.Rows L2
section
variable {W : Wd} {X : Cx} {pins : List (Addr × Obj)} {σ : St} {s : Shared} {ι : Io} {H : Hp} {M : Mem} {n : Nat} {a : Addr} {kvs : List (D × D)}
def Dit (W : Wd) (ι : Io) (H : Hp) (a : Addr) (kvs : List (D × D)) : Prop := ∃ xs u, H a = some u ∧ (u = .ext (rawN W.w a xs) ∨ ∃ o, u = .frz o (.ext (rawN W.w a xs))) ∧ KvN W.K ι H a xs kvs
theorem MI.wd (m : MI W ι H M) : ι.fa.wd = W.w := by rw [m.f]
theorem MI.dit (m : MI W ι H M) (e : M[n]? = some (.dit kvs) ∨ M[n]? = some (.frz kvs)) (h : ι.pl[n]? = some a) : Dit W ι H a kvs := by
 rcases e with e | e
 · obtain ⟨xs, h1, l⟩ := m.m.ok n _ a e h
   rw [m.wd] at h1
   exact ⟨xs, _, h1, .inl rfl, l⟩
 · obtain ⟨o, xs, h1, l⟩ := m.m.ok n _ a e h
   rw [m.wd] at h1
   exact ⟨xs, _, h1, .inr ⟨o, rfl⟩, l⟩
theorem Dit.at (I : Inv X pins σ H s) (hw : X.w = W.w) (hK : X.K = W.K) (d : Dit W ι H a kvs) : ∃ xs ys, Paired PN xs ys ∧ s.heap.DictOfH (nestedKind X.prog X.w) a ys ∧ KvN W.K ι H a xs kvs := by
 obtain ⟨xs, u, h1, h2, l⟩ := d
 rw [← hw] at h2
 obtain ⟨ys, p, dd⟩ := dit_of I.hok (K := W.K) (by rw [← hK]; exact I.kIn) h1 h2 l
 exact ⟨xs, ys, p, dd, l⟩
theorem room_in1 {A : Around} (hu : A.units + 9 < cLine) : (nestedKind X.prog X.w).room A.in1 := by
 show A.in1.units + 8 < cLine
 have : A.in1.units = A.units + 1 := rfl
 omega
theorem ix_dit (hw : X.w = W.w) (hK : X.K = W.K) (hu : X.A.units + 9 < cLine) : IxR X (fun x y H Q => ∃ ι a kvs w k d, Dit W ι H a kvs ∧ x = .ref a ∧ Den W.K ι H y w ∧ tupKey w = some k ∧ lookN kvs k = some d ∧ ∀ v, Den W.K ι H v d → Q v H) := by
 intro value slice pins s σ H x y v u Q I rx ry h hs
 obtain ⟨ι, a, kvs, w, k, d, dt, rfl, dw, hk, hl, q⟩ := h
 cases rx
 obtain ⟨b, rfl⟩ := tup_ref dw hk
 cases (show u = Value.ref b from ry)
 obtain ⟨xs, ys, p, dd, l⟩ := dt.at I hw hK
 obtain ⟨v, hv, dv⟩ := l.look hl
 obtain ⟨w', hw', rw'⟩ := RelO.some_of (v := v) (o := (atKey ys k).map (·.2)) (by rw [← hv]; exact PN.val p k)
 obtain ⟨pr, hp, hp2⟩ := Option.map_eq_some_iff.mp hw'
 refine tail_any dd.typeIs PySem.F.slot_dict_getitem.lookup (wpAny_getItem_heap (room_in1 hu) (key_is I.hok (by rw [← hK]; exact I.kIn) dw hk) dd hp ?_) hs
 rw [hp2]
 exact ⟨v, H, I.tok _, rw', q v dv⟩
def rSetN (W : Wd) : TSet := fun o i v H Q => ∃ ι a xs kvs b w k, o = .ref a ∧ H a = some (.ext (rawN W.w a xs)) ∧ KvN W.K ι H a xs kvs ∧ i = .ref b ∧ Den W.K ι H i w ∧ tupKey w = some k ∧ xs.length < sizeLine ∧ Q (upd H a (.ext (rawN W.w a (putX xs k b v))))
theorem set_dit (hw : X.w = W.w) (hK : X.K = W.K) (hu : X.A.units + 9 < cLine) : PSet X (rSetN W) := by
 intro pins s σ H o i v ov iv u Q I ro ri rv h
 obtain ⟨ι, a, xs, kvs, b, w, k, rfl, ha, l, rfl, dw, hk, hz, q⟩ := h
 cases (show ov = Value.ref a from ro)
 cases (show iv = Value.ref b from ri)
 rw [← hw] at ha q
 obtain ⟨ys, p, dd⟩ := dit_of I.hok (K := W.K) (by rw [← hK]; exact I.kIn) ha (.inl rfl) l
 refine wpAny_setItem_heap (hsz := by rw [← Paired.length p]; omega) (room_in1 hu) (key_is I.hok (by rw [← hK]; exact I.kIn) dw hk) dd fun h' dd' hs => ?_
 obtain ⟨q', es, ep, hq, h2, h3, h4, _, _⟩ := dd'
 exact ⟨_, d_write I (by rw [ha]; exact True.intro) hs ⟨q', hq⟩ (raw_to (P := X.prog) (PN.put p rv) hq h2 h3 h4), q⟩
theorem pe_dnewN (hw : X.w = W.w) {pos : Pos} : PE X (.Dict [] [] pos) (fun _ H Q => ∀ p, H p = none → (p == sysModules) = false → Q (.ref p) (upd H p (.ext (rawN W.w p [])))) := ⟨fun pins s σ H Q I h =>
 wpAny_Dict_empty (by
   have hb := I.big
   refine ⟨.ref s.heap.objs.size, _, I.laid (t' := s.toks) (fun b q e => Heap.get?_push_of_some _ e) (Nat.le_refl _) ?_, rfl, h _ (I.hok.fresh (Nat.le_refl _)) (beq_eq_false_iff_ne.mpr (Ne.symm (Nat.ne_of_lt hb)))⟩
   rw [← hw]
   exact raw_to (P := X.prog) (ys := []) .nil (Heap.get?_push_size _ rfl) ⟨rfl, rfl, rfl⟩ rfl rfl)⟩
end
section
variable {prog : Program} {w : World} {d : Addr}
theorem kdl_raw (lo : (d == sysModules) = false) (es : Array DictEntry) (ep : Nat) : PySem.W.KdlSrc prog w "dict" d d es.size (fun i v => ∃ hi : i < es.size, v = es[i].key) (fun h => h.DictRaw d es ep) where
 type := fun _ hm => hm.typeIs
 there := fun _ hm => ⟨hm.lt_size, hm.lt_size⟩
 keep := fun _ _ hm hk => hm.at fun o e => hk d (.inl rfl) o e
 notList := by decide
 notTuple := by decide
 hint := fun _ _ _ _ hm hq => PySem.W.kdl_hint_dict hm.typeIs hq
 iter := fun _ _ hh hm => ⟨_, _, fun _ _ hq => wpAny_pyIter_dict_raw lo hm hq, Walks.rawKeys hh _ d (Nat.ne_of_lt hm.lt_size) es ep, ⟨⟨_, Heap.get?_push_size _ rfl, rfl, rfl⟩, hm.push _⟩⟩
end
theorem vals_at : ∀ {xs : List V} {us : List Value}, xs.length = us.length → (∀ (i : Nat) (x : V) (u : Value), xs[i]? = some x → us[i]? = some u → RelV x u) → Vals xs us
 | [], [], _, _ => .nil
 | [], _ :: _, e, _ => by cases e
 | _ :: _, [], e, _ => by cases e
 | x :: xs, u :: us, e, h => .cons (h 0 x u rfl rfl) (vals_at (by simpa using e) fun i a b h1 h2 => h (i + 1) a b h1 h2)
section
variable {W : Wd} {X : Cx}
theorem cr_keysN (hw : X.w = W.w) (hK : X.K = W.K) (hc : X.calm = true) : CallR X (.type "list") (fun vs H Q => ∃ ι a kvs, vs = [.ref a] ∧ Dit W ι H a kvs ∧ ∀ p ws, H p = none → DenL W.K ι H ws (kvs.map (·.1)) → Q (.ref p) (upd H p (.lst ws))) := by
 intro pins s σ H vs us Q I r h
 obtain ⟨ι, a, kvs, rfl, dt, q⟩ := h
 cases r with
 | cons r1 rr =>
 cases rr
 cases r1
 obtain ⟨xs, ys, p, dd, l⟩ := dt.at I hw hK
 obtain ⟨o, es, ep, h1, h2, h3, h4, _, _⟩ := dd
 have hsz : es.size = xs.length := by rw [size_of_entries h4, Paired.length p]
 refine PySem.W.kdl_call (kdl_raw l.m es ep) (I.ok.hd hc) ⟨o, h1, h2, h3⟩ (by rw [hsz]; exact l.l) fun h' tk acc c' hk hS hacc => ?_
 have hp := I.hok.fresh (Nat.le_refl s.heap.objs.size)
 refine ⟨.ref s.heap.objs.size, upd H s.heap.objs.size (.lst (xs.map fun x => V.ref x.2.1)), I.laid (t' := tk) hk (Nat.le_refl _) ⟨by rw [List.length_map]; exact l.l, acc.toList, c', vals_at (by rw [List.length_map, ← hsz]; simpa using hacc.1.symm) fun i x u e1 e2 => ?_, by simpa using hS⟩, rfl, q _ _ hp l.kd⟩
 obtain ⟨hi, e3⟩ := hacc.2 i u (by rw [← Array.getElem?_toList]; exact e2)
 obtain ⟨y, ey, e4⟩ : ∃ y, xs[i]? = some y ∧ V.ref y.2.1 = x := by
   rw [List.getElem?_map] at e1
   exact Option.map_eq_some_iff.mp e1
 obtain ⟨b, eb, e5, e6, e7⟩ := paired_get p ey
 have e8 := entry_at h4 i
 rw [eb, Array.getElem?_eq_getElem hi] at e8
 have e9 : es[i] = entryOfKey (nestedKind X.prog X.w) b := by simpa using e8
 rw [← e4, e3, e9, e6]
 rfl
theorem pe_dgetN (hw : X.w = W.w) (hK : X.K = W.K) (hu : X.A.units + 9 < cLine) {o e f : Expr} {apos cpos : Pos} {td ty tx : TE} (ho : PE X o td) (he : PE X e ty) (hf : PE X f tx) (m : M2 X o "get" apos e f cpos) :
   PE X (.Call (.Attribute o "get" apos) [e, f] [] cpos) (fun σ H Q => td σ H fun x H1 => ∃ ι a kvs, x = .ref a ∧ Dit W ι H1 a kvs ∧ ty σ H1 fun y H2 => tx σ H2 fun z H3 => ∃ ι kvs w k, Dit W ι H3 a kvs ∧ Den W.K ι H3 y w ∧ tupKey w = some k ∧
     (∀ d v, lookN kvs k = some d → Den W.K ι H3 v d → Q v H3) ∧ (lookN kvs k = none → Q z H3)) := by
 refine ⟨fun pins s σ H Q I h => ?_⟩
 refine wpAny_Call_method m.base m.few m.line PySem.F.plainAttrs_dict PySem.F.slot_dict_get PySem.F.type_dict_get (thn (ho.run pins s σ H _ I h) fun u s1 ⟨x, H1, I1, rx, ι, a, kvs, ex, d, q1⟩ => ?_)
 subst ex
 obtain rfl : u = Value.ref a := rx
 obtain ⟨xs, ys, p, dd, l⟩ := d.at I1 hw hK
 refine ⟨dd.typeIs, fun b q => ?_, ?_⟩
 · cases q
   obtain ⟨ob, _, _, h1, h2, _⟩ := dd
   exact ⟨ob, h1, h2.2.1⟩
 rw [m.trees]
 refine Calls.callWith_builtin rfl (Calls.evalArgs_plain (Calls.spliced_cons (thn (he.run pins s1 σ H1 _ I1 q1) fun iv s2 ⟨y, H2, I2, ry, q2⟩ =>
   Calls.spliced_cons (thn (hf.run pins s2 σ H2 _ I2 q2) fun fv s3 ⟨z, H3, I3, rz, ι3, kvs3, w, k, d3, dw, hk, q3, q4⟩ => Calls.spliced_nil ?_))))
 obtain ⟨b, rfl⟩ := tup_ref dw hk
 cases (show iv = Value.ref b from ry)
 obtain ⟨xs3, ys3, p3, dd3, l3⟩ := d3.at I3 hw hK
 refine call_meetsIn PySem.F.slot_dict_get dd3.typeIs PySem.F.entry_dict_get (PySem.F.args_dict_get_3 _ _ _) (meetsH_dict_get_default (nestedKind X.prog X.w) a b l3.m fv) ⟨room_in1 hu, k, ys3, key_is I3.hok (by rw [← hK]; exact I3.kIn) dw hk, dd3, ?_⟩
 have rel := PN.val p3 k
 cases ev : lookN kvs3 k with
 | none =>
   rw [l3.none ev] at rel
   have e : (atKey ys3 k).map (·.2) = none := RelO.none_of rel
   rw [e]
   exact ⟨z, H3, I3.tok _, rz, q4 ev⟩
 | some d =>
   obtain ⟨v, hv, dv⟩ := l3.look ev
   rw [hv] at rel
   obtain ⟨w', hw', rw'⟩ := RelO.some_of (v := v) (o := (atKey ys3 k).map (·.2)) rel
   rw [hw']
   exact ⟨v, H3, I3.tok _, rw', q3 d v ev dv⟩
end
section
variable {X : Cx} {pins : List (Addr × Obj)} {σ : St} {H : Hp} {s : Shared} {d : Addr} {o : Obj} {xs : List Nx}
theorem Inv.frzN (I : Inv X pins σ H s) (h : H d = some (.frz o (.ext (rawN X.w d xs)))) : s.heap.get? d = some o ∧ o.ExactDict ∧ ∃ (es : Array DictEntry) (ep : Nat), o.data = .dict es ep ∧ es.size = xs.length ∧
   ∀ (i : Nat) (x : Nx), xs[i]? = some x → ∃ en : DictEntry, es[i]? = some en ∧ en.key = .ref x.2.1 := by
 obtain ⟨hd, z⟩ := I.hok d _ h
 obtain ⟨ys, p, o', es, ep, ho, hx, hdt, he⟩ := raw_of (P := X.prog) z
 rw [hd] at ho
 cases ho
 refine ⟨hd, hx, es, ep, hdt, by rw [size_of_entries he, Paired.length p], fun i x e => ?_⟩
 obtain ⟨b, hb, e1, e2, _⟩ := paired_get p e
 have q := entry_at he i
 rw [hb] at q
 exact ⟨_, q, by rw [e2]; rfl⟩
end
def ItN (w : World) (d : Addr) (o : Obj) (xs : List Nx) : L2.It :=
 ⟨fun i H => H d = some (.frz o (.ext (rawN w d xs))) ∧ i < xs.length, fun i H x H' => H' = H ∧ ∃ y : Nx, xs[i]? = some y ∧ x = .ref y.2.1, fun i H => H d = some (.frz o (.ext (rawN w d xs))) ∧ xs.length ≤ i⟩
section
variable {P : Program} {w : World} {K : PySem.W.Frag} {tg : Expr} {d : Addr} {o : Obj} {xs : List Nx} {es : Array DictEntry} {ep : Nat}
theorem turn_keysN (it : Addr) (hod : o.data = .dict es ep) : Turn P w K tg (ItN w d o xs) [it] it (fun i h => h.IsKeyIter it d i xs.length ep) where
 mem := by simp
 obj := fun i h st b hb => by
   have e : b = it := by simpa using hb
   subst e
   obtain ⟨oi, e, c, dd⟩ := st
   exact ⟨oi, e, fun v z => by rw [dd] at z; cases z⟩
 keep := fun i h h' st k => st.at fun oi e => k it (by simp) oi e
 item := by
   intro X hP hw hK hc i pins s σ H E I hf st hg
   subst hP hw hK
   obtain ⟨hd, hi⟩ := hg
   obtain ⟨f0, f1, f2, f3, f4, f5⟩ := hf it (by simp)
   obtain ⟨hgd, hx, es', ep', hdt, hsz, ent⟩ := Inv.frzN I hd
   obtain ⟨rfl, rfl⟩ := dict_ep hod hdt
   obtain ⟨x, hkv⟩ : ∃ p, xs[i]? = some p := ⟨xs[i], List.getElem?_eq_getElem hi⟩
   obtain ⟨en, hen, hkey⟩ := ent i x hkv
   refine next_key_item st hgd hdt hsz hen fun h' st' sb => ?_
   have I1 : Inv X pins σ H { s with heap := h' } := I.turned (t' := s.toks) (fun b ob hb e => (sb.2 b hb).trans e) f0 f1 f3 f4 f5
   obtain ⟨oi, e, c, dd⟩ := id st'
   exact ⟨en.key, rfl, go_of (s := { s with heap := h' }) e c dd (by decide) ⟨.ref x.2.1, H, I1, hkey, ⟨rfl, x, hkv, rfl⟩, st', fun b hb => (hf b hb).1⟩⟩
 done := by
   intro X hP hw hK hc i pins s σ H E I hf st hg
   subst hP hw hK
   obtain ⟨hd, hi⟩ := hg
   obtain ⟨f0, f1, f2, f3, f4, f5⟩ := hf it (by simp)
   obtain ⟨hgd, hx, es', ep', hdt, hsz, ent⟩ := Inv.frzN I hd
   obtain ⟨rfl, rfl⟩ := dict_ep hod hdt
   exact next_key_end (I.ok.hd hc) st hgd hdt hsz hi fun h' eb => ⟨rfl, I.turned (t' := s.toks) (fun b ob hb e => eb b ob hb e) f0 f1 f3 f4 f5⟩
 self := fun A i s Q E st h => by
   refine wpAny_pyIter_slot st.typeIs F.slot_dict_keyiterator_iter (wpAny_call_entry F.slot_dict_keyiterator_iter st.typeIs F.entry_dict_keyiterator_iter ?_ (F.args_dict_keyiterator_iter_1 _))
   show wpAny _ _ (ret (.ref it)) _ _ s
   exact wpAny_pure ⟨_, rfl, "dict_keyiterator", _, st.typeIs, F.slot_dict_keyiterator_next.lookup, h⟩
end
end Zt
namespace Zt
open PySem PySem.Spec PyProof.Rows L2
section
variable {W : Wd} {X : Cx}
theorem EndG.of {wx : WX} {σ : St} {ι : Io} {H : Hp} {Q : VK} {o : Option D} {M : Mem} (h : EndG W wx σ ι H (DenZ W.K) Q (R.of (o.map .d) M)) : ∃ z, o = some z ∧ ∀ v H', Ext ι H ι H' → MI W ι H' M → Den W.K ι H' v z → Q v H' := by
 cases o with
 | none => exact h.elim
 | some z => exact ⟨z, rfl, fun v H' e m d => h ι v H' e m (.d d)⟩
def rB2 (W : Wd) (f : Z → Z → Mem → R Z) : R2 := fun x y H Q => ∃ ι M a b wx σ, MI W ι H M ∧ DenZ W.K ι H x a ∧ DenZ W.K ι H y b ∧ EndG W wx σ ι H (DenZ W.K) Q (f a b M)
def rBn (W : Wd) (f : List Z → Mem → R Z) : List V → Hp → VK → Prop := fun xs H Q => ∃ ι M zs wx σ, MI W ι H M ∧ DenZL W.K ι H xs zs ∧ EndG W wx σ ι H (DenZ W.K) Q (f zs M)
theorem lsZ_rd {ι : Io} {H : Hp} {M : Mem} {v : V} {z : Z} {ds : List D} (m : MI W ι H M) (d : DenZ W.K ι H v z) (e : lsZ M z = some ds) : ∃ a us, v = .ref a ∧ H a = some (.lst us) ∧ DenL W.K ι H us ds := by
 cases d with
 | f _ => cases e
 | @r n a ha =>
   have e : getL M n = some ds := e
   unfold getL at e
   split at e
   · rename_i xs q
     cases e
     obtain ⟨us, h1, l⟩ := m.m.ok n _ a q ha
     exact ⟨a, us, rfl, h1, l⟩
   · cases e
 | d d =>
   cases d with
   | lst h l =>
     cases e
     exact ⟨_, _, rfl, h.2, l⟩
   | _ => cases e
theorem op_binZ (hK : X.K = W.K) (op : BOp) : OpR X (binaryOp op.x) (rB2 W (opz op)) := by
 intro pins s σ H x y v u Q I rx ry h
 obtain ⟨ι, M, a, b, wx, σ', m, dx, dy, e⟩ := h
 have mixed : EndG W wx σ' ι H (DenZ W.K) Q (if op = .add then match lsZ M a, lsZ M b with
     | some xs, some ys => if xs.length + ys.length ≤ slen then .ok (.d (.list (xs ++ ys))) M else .bad
     | _, _ => .bad
   else .bad) → wpAny (model X.prog X.w) X.A (binaryOp op.x v u) (EP X pins σ Q) X.xe s := fun hh => by
   split at hh
   · rename_i hop
     subst hop
     split at hh
     · rename_i xs ys q1 q2
       split at hh
       · rename_i hl
         obtain ⟨p, us, rfl, h1, l1⟩ := lsZ_rd m dx q1
         obtain ⟨p2, ws, rfl, h2, l2⟩ := lsZ_rd m dy q2
         exact op_cat pins s σ H _ _ v u Q I rx ry ⟨p, p2, us, ws, rfl, rfl, h1, h2, sl_of (by rw [l1.length, l2.length]; exact hl), fun p3 h3 => hh _ _ _ (Ext.new h3) (m.new h3) (.d (.newL m.has h3 (l1.append l2)))⟩
       · exact hh.elim
     · exact hh.elim
   · exact hh.elim
 cases a with
 | r _ => exact mixed e
 | f _ => exact mixed e
 | d a =>
   cases b with
   | r _ => exact mixed e
   | f _ => exact mixed e
   | d b =>
     cases dx with
     | d dx =>
     cases dy with
     | d dy =>
     obtain ⟨z, ez, q⟩ := EndG.of e
     exact op_bin hK op pins s σ H x y v u Q I rx ry ⟨ι, M, _, _, z, m, dx, dy, ez, q⟩
theorem op_addM : OpR X (binaryOp .Add) (rB2 W adz) := by
 intro pins s σ H x y v u Q I rx ry h
 obtain ⟨ι, M, a, b, wx, σ', m, dx, dy, e⟩ := h
 unfold adz at e
 split at e
 · rename_i xs ys q1 q2
   split at e
   · rename_i hl
     obtain ⟨p, us, rfl, h1, l1⟩ := lsZ_rd m dx q1
     obtain ⟨p2, ws, rfl, h2, l2⟩ := lsZ_rd m dy q2
     refine op_cat pins s σ H _ _ v u Q I rx ry ⟨p, p2, us, ws, rfl, rfl, h1, h2, sl_of (by rw [l1.length, l2.length]; exact hl), fun p3 h3 => e _ _ _ (Ext.newM h3) (m.newM h3 (l1.append l2)) (.r ?_)⟩
     rw [← m.m.len]
     show (ι.pl ++ [p3])[ι.pl.length]? = some p3
     rw [List.getElem?_append_right (Nat.le_refl _)]
     simp
   · exact e.elim
 · exact e.elim
def cmpZ (op : COp) (x y : Z) (M : Mem) : R Z := (cpz op x y M).bind fun k M1 => .ok (boolZ k) M1
theorem daZ_dp {ι : Io} {H : Hp} {M : Mem} {v : V} {z : Z} {d : D} (m : MI W ι H M) (h : DenZ W.K ι H v z) (e : daZ M z = some d) (c : d.canLay0 = true) : Dp W.K H v d := by
 cases h with
 | f _ => cases e
 | d h =>
   cases e
   exact h.dp c
 | @r n a ha =>
   obtain ⟨ds, e1, e2⟩ := Option.map_eq_some_iff.mp (show (getL M n).map PyData.list = some d from e)
   subst e2
   obtain ⟨b, us, eb, h1, l⟩ := lsZ_rd (z := .r n) m (.r ha) (show lsZ M (.r n) = some ds from e1)
   cases eb
   exact .lst (.inl (.inl h1)) (l.dp (by simpa only [PyData.canLay0] using c))
theorem op_cmpZ (hK : X.K = W.K) (hu : X.A.units + 65 < cLine) (op : COp) : OpR X (compareOp op.x) (rB2 W (cmpZ op)) := by
 intro pins s σ H x y v u Q I rx ry h
 obtain ⟨ι, M, a, b, wx, σ', m, dx, dy, e⟩ := h
 have mixed : EndG W wx σ' ι H (DenZ W.K) Q ((if op = .eq ∨ op = .ne then R.of ((daZ M a).bind fun a => (daZ M b).bind fun b => cop op a b) M else .bad).bind fun k M1 => .ok (boolZ k) M1) → wpAny (model X.prog X.w) X.A (compareOp op.x v u) (EP X pins σ Q) X.xe s := fun hh => by
   have hu' : X.A.units + 64 < cLine := by omega
   split at hh
   case isFalse => exact hh.elim
   rename_i hop
   cases q : (daZ M a).bind fun a => (daZ M b).bind fun b => cop op a b with
   | none => rw [q] at hh; exact hh.elim
   | some k =>
     rw [q] at hh
     obtain ⟨a', ea, q⟩ := Option.bind_eq_some_iff.mp q
     obtain ⟨b', eb, q⟩ := Option.bind_eq_some_iff.mp q
     have da := daZ_dp m dx ea
     have db := daZ_dp m dy eb
     have fin : Q (.bl k) H := hh ι (.bl k) H (Ext.refl ι H) m (.d (.bl k))
     rcases hop with rfl | rfl
     · simp only [cop] at q
       split at q
       · rename_i hs
         rw [Bool.and_eq_true] at hs
         cases Option.some.inj q
         exact op_eqD hu' pins s σ H x y v u Q I rx ry ⟨a', b', by rw [hK]; exact da (SeqAt.canLay_of_shaped hs.1), by rw [hK]; exact db (SeqAt.canLay_of_shaped hs.2), hs.1, hs.2, fin⟩
       · cases q
     · simp only [cop] at q
       split at q
       · rename_i hs
         rw [Bool.and_eq_true] at hs
         cases Option.some.inj q
         exact op_neD hu' pins s σ H x y v u Q I rx ry ⟨a', b', by rw [hK]; exact da (SeqAt.canLay_of_shaped hs.1), by rw [hK]; exact db (SeqAt.canLay_of_shaped hs.2), hs.1, hs.2, fin⟩
       · cases q
 cases dx with
 | r _ => exact mixed e
 | f _ => exact mixed e
 | d dx =>
   cases dy with
   | r _ => exact mixed e
   | f _ => exact mixed e
   | d dy =>
     rename_i a b
     have e : EndG W wx σ' ι H (DenZ W.K) Q ((R.of (cop op a b) M).bind fun k M1 => .ok (boolZ k) M1) := e
     cases q : cop op a b with
     | none => rw [q] at e; exact e.elim
     | some k =>
       rw [q] at e
       exact op_cmp hK hu op pins s σ H x y v u Q I rx ry ⟨ι, M, _, _, k, m, dx, dy, q, e ι (.bl k) H (Ext.refl ι H) m (.d (.bl k))⟩
theorem atI_den {K : PySem.W.Frag} {ι : Io} {H : Hp} {xs : List V} {ds : List D} {i : Int} {z : D} (l : DenL K ι H xs ds) (e : atI ds i = some z) : ∃ v, atI xs i = some v ∧ Den K ι H v z := by
 unfold atI at e ⊢
 rw [l.length]
 cases q : ixN ds.length i with
 | none => rw [q] at e; cases e
 | some j =>
   rw [q] at e
   exact l.get e
theorem MI.cell {ι : Io} {H : Hp} {M : Mem} (m : MI W ι H M) {n : Nat} {o : MO} {a : Addr} (e : M[n]? = some o) (h : ι.pl[n]? = some a) : MOk W.K ι H a o := m.m.ok n o a e h
theorem ix_dict (hu : X.A.units + 1 < cLine) : IxR X (fun x y H Q => ∃ a v, x = .ref a ∧ DGet H a y (some v) ∧ Q v H) := by
 intro value slice pins s σ H x y v u Q I rx ry h hs
 obtain ⟨a, w, rfl, g, q⟩ := h
 cases rx
 exact tail_any (dict_typeIs I g) PySem.F.slot_dict_getitem.lookup (d_getItem hu I g ry fun w' s3 I3 rw' => ⟨w, H, I3, rw', q⟩) hs
theorem den_key {K : PySem.W.Frag} {ι : Io} {H : Hp} {v : V} {d : D} {k : L2.Key} (h : Den K ι H v d) (e : keyOf d = some k) : v = kV k := by
 cases h <;> cases e <;> rfl
theorem ix_Z (hw : X.w = W.w) (hK : X.K = W.K) (hu : X.A.units + 9 < cLine) : IxR X (rB2 W subz) := by
 intro value slice pins s σ H x y v u Q I rx ry h hs
 obtain ⟨ι, M, a, b, wx, σ', m, dx, dy, e⟩ := h
 have li : ∀ (p : Addr) (xs : List V) (ds : List D) (i : Int) (M1 : Mem), x = .ref p → y = .int i → SqL X.K H p xs → DenL W.K ι H xs ds → EndG W wx σ' ι H (DenZ W.K) Q (R.of ((itemD (.list ds) i).map .d) M) →
     wpAny (model X.prog X.w) X.A (subscriptTail value slice v u) (EP X pins σ Q) X.xe s := fun p xs ds i M1 e1 e2 hq l hE => by
   obtain ⟨z, ez, q⟩ := EndG.of hE
   obtain ⟨w, e3, d3⟩ := atI_den l ez
   exact ix_list value slice pins s σ H x y v u Q I rx ry ⟨p, xs, i, w, e1, e2, hq, e3, q w H (Ext.refl ι H) m d3⟩ hs
 cases dx with
 | d dx =>
   cases dy with
   | r _ => cases dx <;> exact e.elim
   | f _ => cases dx <;> exact e.elim
   | d dy =>
     cases dy with
     | int i =>
       rename_i d
       have e : EndG W wx σ' ι H (DenZ W.K) Q (R.of ((itemD d i).map .d) M) := e
       obtain ⟨z, ez, q⟩ := EndG.of e
       cases dx with
       | lst h1 l1 => exact li _ _ _ i M rfl rfl (.inl (.inl h1.2)) l1 e
       | tup h1 l1 =>
         obtain ⟨w, e3, d3⟩ := atI_den l1 ez
         exact ix_tup value slice pins s σ H _ _ v u Q I rx ry ⟨_, _, i, w, rfl, rfl, by rw [hK]; exact h1.imp (fun z => .inl z.2) And.left, e3, q w H (Ext.refl ι H) m d3⟩ hs
       | str t =>
         simp only [itemD] at ez
         split at ez
         · rename_i hl
           cases q3 : atI t.cps.toList i with
           | none => rw [q3] at ez; cases ez
           | some c =>
             rw [q3] at ez
             cases ez
             exact ix_str value slice pins s σ H _ _ v u Q I rx ry ⟨t, i, c, rfl, rfl, sl_of hl, q3, q _ H (Ext.refl ι H) m (.str _)⟩ hs
         · cases ez
       | _ => cases ez
     | _ => cases dx <;> exact e.elim
 | f _ => exact e.elim
 | r hx =>
   rename_i n p
   cases dy with
   | r _ => exact e.elim
   | f _ => exact e.elim
   | d dy =>
     rename_i y'
     have e : EndG W wx σ' ι H (DenZ W.K) Q (match (generalizing := false) M[n]? with
       | some (.lst xs) => match (generalizing := false) y' with
         | .int j => R.of ((itemD (.list xs) j).map .d) M
         | _ => .bad
       | some (.frz kvs) => R.of (((tupKey y').bind (lookN kvs)).map .d) M
       | some (.dic kvs) => R.of (((keyOf y').bind (lookK kvs)).map .d) M
       | some (.dit kvs) => R.of (((tupKey y').bind (lookN kvs)).map .d) M
       | _ => .bad) := e
     cases q : M[n]? with
     | none => rw [q] at e; exact e.elim
     | some o =>
       rw [q] at e
       have c := m.cell q hx
       cases o with
       | lst ds =>
         obtain ⟨xs, h1, l1⟩ := c
         cases dy <;> try exact e.elim
         exact li p xs ds _ M rfl rfl (.inl (.inl h1)) l1 e
       | frz kvs =>
         obtain ⟨z, ez, qz⟩ := EndG.of e
         obtain ⟨k, e1, e2⟩ := Option.bind_eq_some_iff.mp ez
         exact ix_dit hw hK (by omega) value slice pins s σ H _ y v u Q I rx ry ⟨ι, p, kvs, y', k, z, m.dit (.inr q) hx, rfl, dy, e1, e2, fun v dv => qz v H (Ext.refl ι H) m dv⟩ hs
       | dic kvs =>
         obtain ⟨vs, h1, l1⟩ := c
         obtain ⟨z, ez, qz⟩ := EndG.of e
         obtain ⟨k, e1, e2⟩ := Option.bind_eq_some_iff.mp ez
         obtain ⟨w, e3, d3⟩ := l1.look e2
         have ey := den_key dy e1
         refine ix_dict (by omega) value slice pins s σ H _ y v u Q I rx ry ⟨p, w, rfl, ?_, qz w H (Ext.refl ι H) m d3⟩ hs
         rw [ey, ← e3]
         exact DGet.k h1
       | dit kvs =>
         obtain ⟨z, ez, qz⟩ := EndG.of e
         obtain ⟨k, e1, e2⟩ := Option.bind_eq_some_iff.mp ez
         exact ix_dit hw hK (by omega) value slice pins s σ H _ y v u Q I rx ry ⟨ι, p, kvs, y', k, z, m.dit (.inl q) hx, rfl, dy, e1, e2, fun v dv => qz v H (Ext.refl ι H) m dv⟩ hs
       | ins _ _ => exact e.elim
theorem cut_den {K : PySem.W.Frag} {ι : Io} {H : Hp} {xs : List V} {ds : List D} (l : DenL K ι H xs ds) (lo hi : Option Int) : DenL K ι H (cutV xs lo hi) (cut ds lo hi) := by
 unfold cutV cut
 rw [l.length]
 exact (l.drop _).take _
theorem cut_all {α : Type} {xs : List α} {lo hi : Option Int} (h : HT.sIx xs.length 0 lo = 0 ∧ HT.sIx xs.length xs.length hi = xs.length) : cut xs lo hi = xs := by
 unfold cut
 rw [h.1, h.2]
 simp
def rSlZ (W : Wd) : V → Option Int → Option Int → Hp → VK → Prop := fun x lo hi H Q => ∃ ι M a wx σ, MI W ι H M ∧ DenZ W.K ι H x a ∧ EndG W wx σ ι H (DenZ W.K) Q (slz a lo hi M)
theorem sl_Z (hK : X.K = W.K) : SlR X (rSlZ W) := by
 intro pins s σ H x v vl vu lo hi sl Q I rx hs pl pu h
 obtain ⟨ι, M, a, wx, σ', m, dx, e⟩ := h
 cases dx with
 | r _ => exact e.elim
 | f _ => exact e.elim
 | d dx =>
   rename_i d
   have e : EndG W wx σ' ι H (DenZ W.K) Q (R.of ((slcD d lo hi).map .d) M) := e
   obtain ⟨z, ez, q⟩ := EndG.of e
   cases dx with
   | lst h1 l1 =>
     cases ez
     exact sl_list pins s σ H _ v vl vu lo hi sl Q I rx hs pl pu ⟨_, _, rfl, .inl (.inl h1.2), fun p hp => q _ _ (Ext.new hp) (m.new hp) (.newL m.has hp (cut_den l1 lo hi))⟩
   | tup h1 l1 =>
     cases ez
     refine sl_tupA pins s σ H _ v vl vu lo hi sl Q I rx hs pl pu ⟨_, _, rfl, by rw [hK]; exact h1.imp (fun z => .inl z.2) And.left, fun hw => ?_, fun _ p hp => q _ _ (Ext.new hp) (m.new hp) (.newT m.has hp (cut_den l1 lo hi))⟩
     have hw' := hw
     rw [l1.length] at hw'
     rw [cut_all hw'] at q
     exact q _ H (Ext.refl ι H) m (.tup h1 l1)
   | str t =>
     simp only [slcD] at ez
     split at ez
     · rename_i hl
       cases ez
       exact sl_str pins s σ H _ v vl vu lo hi sl Q I rx hs pl pu ⟨t, rfl, sl_of hl, q _ H (Ext.refl ι H) m (.str _)⟩
     · cases ez
   | _ => cases ez
theorem tru_Z {ι : Io} {H : Hp} {M : Mem} {x : V} {z : Z} {k : Bool} (hK : X.K = W.K) (m : MI W ι H M) (d : DenZ W.K ι H x z) (e : truthZ z M = some k) : TruV X.K x H k := by
 rw [hK]
 cases d with
 | d d =>
   cases d with
   | non => cases e; rfl
   | bl b => cases e; rfl
   | int i => cases e; rfl
   | str y =>
     simp only [truthZ, truth] at e
     split at e
     · rename_i hl
       cases e
       refine ⟨sl_of hl, ?_⟩
       show (y.length != 0) = ((y.length : Int) != 0)
       rw [Bool.eq_iff_iff]
       simp
     · cases e
   | lst h l =>
     cases e
     refine .inl ⟨_, .inl (.inl h.2), ?_⟩
     have := l.length
     cases l <;> rfl
   | tup h l =>
     cases e
     refine .inr (.inl ⟨_, h.imp (fun z => .inl z.2) And.left, ?_⟩)
     cases l <;> rfl
   | er0 _ _ _ => cases e
   | er1 _ _ _ _ => cases e
 | f _ => cases e
 | r h =>
   rename_i n a
   have e : (match M[n]? with
     | some (.lst xs) => some (!xs.isEmpty)
     | _ => none) = some k := e
   cases q : M[n]? with
   | none => rw [q] at e; cases e
   | some o =>
     rw [q] at e
     have c := m.cell q h
     cases o with
     | lst ds =>
       cases e
       obtain ⟨xs, h1, l⟩ := c
       refine .inl ⟨_, .inl (.inl h1), ?_⟩
       cases l <;> rfl
     | _ => cases e
end
end Zt
namespace Hh
open PySem PySem.Spec PyProof.Rows L2 HotX
section
variable {prog : Program} {w : World} {A : Around} {E : Value → Shared → Prop} {s : Shared}
theorem stopped {α : Type} {x1 : Addr} {Q : α → Shared → Prop} (hot : HotAt A x1 s.heap)
   (hE : ∀ (g : Heap) (e : Addr), (∀ b o, s.heap.get? b = some o → g.get? b = some o) → (∃ o, g.get? e = some o ∧ o.cls = .type "StopIteration") → E (.ref e) { s with heap := g }) :
   wpAny (model prog w) A (newExc (.type "StopIteration") [] >>= fun e => (raiseNew e : Sem α)) Q E s := by
 obtain ⟨hh, o1, vs1, h1, d1, c1⟩ := hot
 refine wpAny_bind ?_
 simp only [newExc, newTuple]
 refine wpAny_bind (wpAny_newObj_type ?_ (by size_fits))
 refine wpAny_bind (m := firstArgMember _ _) (wpAny_of_eq (a := Value.none) (by first | rfl | (simp only [firstArgMember]; rfl)) ?_)
 refine wpAny_newObj_type ?_ (by size_fits)
 have q1 := Heap.get?_push_of_some { cls := .type "tuple", data := .seq ([] : List Value).toArray } h1
 refine raiseNew_hot (vs := _) ⟨hh, o1, vs1, Heap.get?_push_of_some _ q1, d1, c1⟩ (Nat.ne_of_lt (Heap.lt_size q1)) (Heap.get?_push_size _ rfl) rfl (by first | (simp; done) | (simp; omega)) ?_
 refine hE _ _ (fun b o e => ?_) ⟨_, Heap.get?_update_self _ (Heap.get?_push_size _ rfl) rfl, rfl⟩
 have q2 := Heap.get?_push_of_some { cls := .type "tuple", data := .seq ([] : List Value).toArray } e
 rw [Heap.get?_update_other _ _ (Nat.ne_of_gt (Heap.lt_size q2))]
 exact Heap.get?_push_of_some _ q2
theorem hot_keep {x1 : Addr} {h h' : Heap} {it : Addr} (hot : HotAt A x1 h) (hx : x1 ≠ it) (k : ∀ b o, b ≠ it → h.get? b = some o → h'.get? b = some o) : HotAt A x1 h' := by
 obtain ⟨hh, o1, vs1, h1, d1, c1⟩ := hot
 exact ⟨hh, o1, vs1, k x1 o1 hx h1, d1, c1⟩
theorem list_stop {it l x1 : Addr} {i : Nat} {items : Array Value} {Q : Option Value → Shared → Prop} (hot : HotAt A x1 s.heap) (hx : x1 ≠ it) (hit : s.heap.IsListIter it l i) (hl : s.heap.IsList l items) (hn : items[i]? = none)
   (hQ : ∀ g, (∀ b o, b ≠ it → s.heap.get? b = some o → g.get? b = some o) → Q none { s with heap := g }) : wpAny (model prog w) A (pyNext (.ref it)) Q E s := by
 obtain ⟨ob, hob, hcl, hda⟩ := id hit
 obtain ⟨ol, hol, _, nn, hdl⟩ := hl
 unfold pyNext
 refine wpAny_bind (wpAny_attempt (wpAny_callSpecial?_slot (name := Str.ofString "__next__") hit.typeIs slot_listiter_next (wpAny_call_entry slot_listiter_next hit.typeIs entry_listiter_next ?_ (args_listiter_next _))))
 show wpAny _ _ (field (.ref it) 0 >>= _) _ _ s
 refine wpAny_bind (wpAny_field hob hda (x := .ref l) rfl ?_)
 show wpAny _ _ (if (Value.ref l == Value.none) = true then _ else _) _ _ s
 rw [if_neg (show ¬ ((Value.ref l == Value.none) = true) from Bool.false_ne_true)]
 show wpAny _ _ (field (.ref it) 1 >>= _) _ _ s
 refine wpAny_bind (wpAny_field hob hda (x := .int i 0) rfl ?_)
 show wpAny _ _ (seqItems? (.ref l) >>= _) _ _ s
 refine wpAny_bind (wpAny_seqItems hol hdl ?_)
 simp only [Int.toNat_natCast, hn]
 refine wpAny_bind (wpAny_rule (wpAny_bind (wpAny_setField hob hda (by simp) ?_)))
 refine stopped (x1 := x1) (hot_keep (A := A) hot hx (Heap.SameBut.update ..).extBut) fun g e kp he => ?_
 obtain ⟨o, ho, hc⟩ := he
 refine wpAny_bind (wpAny_isInstance (T := "StopIteration") (b := true) ⟨o, ho, hc⟩ isSubtype_stop ?_)
 exact wpAny_pure (hQ g fun b o hb q => kp b o ((Heap.SameBut.update ..).extBut b o hb q))
theorem tuple_stop {it l x1 : Addr} {i : Nat} {items : Array Value} {Q : Option Value → Shared → Prop} (hot : HotAt A x1 s.heap) (hx : x1 ≠ it) (hit : s.heap.IsTupleIter it l i) (hl : s.heap.IsTuple l items) (hn : items[i]? = none)
   (hQ : ∀ g, (∀ b o, b ≠ it → s.heap.get? b = some o → g.get? b = some o) → Q none { s with heap := g }) : wpAny (model prog w) A (pyNext (.ref it)) Q E s := by
 obtain ⟨ob, hob, hcl, hda⟩ := id hit
 obtain ⟨ol, hol, _, nn, hdl⟩ := hl
 unfold pyNext
 refine wpAny_bind (wpAny_attempt (wpAny_callSpecial?_slot (name := Str.ofString "__next__") hit.typeIs F.slot_tuple_iterator_next (wpAny_call_entry F.slot_tuple_iterator_next hit.typeIs F.entry_tuple_iterator_next ?_ (F.args_tuple_iterator_next_1 _))))
 show wpAny _ _ (field (.ref it) 0 >>= _) _ _ s
 refine wpAny_bind (wpAny_field hob hda (x := .ref l) rfl ?_)
 show wpAny _ _ (if (Value.ref l == Value.none) = true then _ else _) _ _ s
 rw [if_neg (show ¬ ((Value.ref l == Value.none) = true) from Bool.false_ne_true)]
 show wpAny _ _ (field (.ref it) 1 >>= _) _ _ s
 refine wpAny_bind (wpAny_field hob hda (x := .int i 0) rfl ?_)
 show wpAny _ _ (seqItems? (.ref l) >>= _) _ _ s
 refine wpAny_bind (wpAny_seqItems hol hdl ?_)
 simp only [Int.toNat_natCast, hn]
 refine wpAny_bind (wpAny_rule (wpAny_bind (wpAny_setField hob hda (by simp) ?_)))
 refine stopped (x1 := x1) (hot_keep (A := A) hot hx (Heap.SameBut.update ..).extBut) fun g e kp he => ?_
 obtain ⟨o, ho, hc⟩ := he
 refine wpAny_bind (wpAny_isInstance (T := "StopIteration") (b := true) ⟨o, ho, hc⟩ isSubtype_stop ?_)
 exact wpAny_pure (hQ g fun b o hb q => kp b o ((Heap.SameBut.update ..).extBut b o hb q))
theorem walks_hot {prog : Program} {w : World} {A : Around} {x1 : Addr} (I ax : Addr) (hne : ax ≠ I) (hx : x1 ≠ I) (items : Array Value) :
   Walks prog w A I [I, ax, x1] [I] items.size (fun i v => items[i]? = some v) (fun i h => (h.IsListIter I ax i ∧ h.IsList ax items) ∧ HotAt A x1 h) where
 sub := fun b hb => by simp at hb; simp [hb]
 frame := fun _ _ _ st hk => ⟨⟨st.1.1.at fun o e => hk I (by simp) o e, st.1.2.at fun o e => hk ax (by simp) o e⟩, by
   obtain ⟨hh, o1, vs1, h1, d1, c1⟩ := st.2
   exact ⟨hh, o1, vs1, hk x1 (by simp) o1 h1, d1, c1⟩⟩
 item := fun i s Q E hi st hQ => by
   refine wpAny_pyNext_list_item st.1.1 st.1.2 (x := items[i]) (by simp [hi]) fun h' hit' hs' => ?_
   exact hQ _ h' s.toks (by simp [hi]) ⟨⟨hit', st.1.2.extBut hs'.extBut hne⟩, hot_keep st.2 hx hs'.extBut⟩ fun b o hb e => hs'.extBut b o (fun h => hb (by simp [h])) e
 done := fun s Q E st hQ => list_stop st.2 hx st.1.1 st.1.2 (by simp) fun g k => hQ g s.toks fun b o hb e => k b o (fun h => hb (by simp [h])) e
 self := fun _ _ _ _ st hQ => wpAny_pyIter_listiter st.1.1 hQ
theorem sum_hot {l x1 : Addr} {xs : Array (Int × Tok)} {Q : Value → Shared → Prop} (hot : HotAt A x1 s.heap) (hl : s.heap.IsList l (intItems xs))
   (h : ∀ h' tk t', (∀ b o, s.heap.get? b = some o → h'.get? b = some o) → Q (.int (preSum (numAt xs) xs.size) t') { s with heap := h', toks := tk }) :
   wpAny (model prog w) A (call (.builtin "sum") [.ref l]) Q E s := by
 have hxl : x1 < s.heap.objs.size := by
   obtain ⟨_, o1, _, h1, _⟩ := hot
   exact Heap.lt_size h1
 refine call_sum_walkG (iter_intList hl fun s₂ e st hfp hlI => ?_)
 subst e
 refine ⟨_, _, _, _, _, _, numAt xs, rfl, walks_hot (A := A.in1) (x1 := x1) _ l hlI (Nat.ne_of_lt hxl) (intItems xs), ⟨st, ?_⟩, fun b hb => ?_, (fun _ _ => intItems_at), fun h' tk t' hk => ?_⟩
 · obtain ⟨hh, o1, vs1, h1, d1, c1⟩ := hot
   exact ⟨hh, o1, vs1, Heap.get?_push_of_some _ h1, d1, c1⟩
 · rcases List.mem_cons.mp hb with rfl | hb
   · exact hfp _ List.mem_cons_self
   · rcases List.mem_cons.mp hb with rfl | hb
     · exact hfp _ (List.mem_cons_of_mem _ List.mem_cons_self)
     · rw [List.mem_singleton.mp hb]
       show x1 < (s.heap.push _).objs.size
       rw [Heap.size_push]
       exact Nat.lt_succ_of_lt hxl
 · have := h h' tk t' (old_kept hk)
   simpa [intItems] using this
theorem sum_rawH {l x1 : Addr} {its : List Value} {ns : List Int} {Q : Value → Shared → Prop} (hot : HotAt A x1 s.heap) (hl : s.heap.IsList l its.toArray) (hi : IntsAre its ns)
   (h : ∀ h' tk t', (∀ b o, s.heap.get? b = some o → h'.get? b = some o) → Q (.int ns.sum t') { s with heap := h', toks := tk }) : wpAny (model prog w) A (call (.builtin "sum") [.ref l]) Q E s := by
 obtain ⟨xs, e⟩ := hi.allInts.items
 have hn : numsOf (intItems xs).toList = ns := by rw [← e]; exact hi.numsOf
 rw [nums_intItems] at hn
 rw [e] at hl
 refine sum_hot hot hl fun h' tk t' hk => ?_
 have := h h' tk t' hk
 rw [preSum_eq, List.take_of_length_le (by simp), hn]; exact this
theorem keys_stop {it d x1 : Addr} {i n ep : Nat} {od : Obj} {es : Array DictEntry} {Q : Option Value → Shared → Prop} (hot : HotAt A x1 s.heap) (hx : x1 ≠ it) (hit : s.heap.IsKeyIter it d i n ep) (hod : s.heap.get? d = some od) (hdd : od.data = .dict es ep)
   (hsz : es.size = n) (hge : n ≤ i) (hQ : ∀ h', (∀ b o, b ≠ it → s.heap.get? b = some o → h'.get? b = some o) → Q none { s with heap := h' }) : wpAny (model prog w) A (pyNext (.ref it)) Q E s := by
 obtain ⟨o, ho, hc, hd⟩ := id hit
 unfold pyNext
 refine wpAny_bind (wpAny_attempt (wpAny_callSpecial?_slot (name := Str.ofString "__next__") hit.typeIs F.slot_dict_keyiterator_next
   (wpAny_call_entry F.slot_dict_keyiterator_next hit.typeIs F.entry_dict_keyiterator_next ?_ (F.args_dict_keyiterator_next_1 _))))
 refine wpAny_bind (wpAny_pure ?_)
 refine wpAny_bind ?_
 refine wpAny_bind ?_
 first | refine wpAny_bind (wpAny_typeNameOfWhole_keyiter hit.typeIs (wpAny_pure ?_)) | refine wpAny_bind (wpAny_typeNameOf_keyiter hit.typeIs (wpAny_pure ?_))
 refine wpAny_bind (wpAny_fieldsOf ho hd ?_)
 have hown : Builtin.Dict_items.ownsTuple "dict_keyiterator" = false := by decide
 simp only [hown, Bool.false_eq_true, if_false]
 show wpAny _ _ (if (Value.ref d == Value.none) = true then _ else _) _ _ s
 rw [if_neg (show ¬ ((Value.ref d == Value.none) = true) from Bool.false_ne_true)]
 refine wpAny_bind (wpAny_pure ?_)
 refine wpAny_bind (wpAny_dictEntries hod hdd ?_)
 rw [if_neg (by rw [hsz]; simp)]
 refine wpAny_bind (wpAny_pure ?_)
 refine wpAny_bind (wpAny_dictEpoch hod hdd ?_)
 rw [if_neg (by simp)]
 refine wpAny_pure ?_
 have hge' : es.size ≤ i := by rw [hsz]; exact hge
 simp only [show ¬ ((i : Int) < 0) from by omega, if_false, Int.toNat_natCast, Array.getElem?_eq_none hge']
 refine wpAny_bind ?_
 first | refine wpAny_bind (wpAny_typeNameOfWhole_keyiter hit.typeIs (wpAny_pure ?_)) | refine wpAny_bind (wpAny_typeNameOf_keyiter hit.typeIs (wpAny_pure ?_))
 show wpAny _ _ (setField (.ref it) 0 .none >>= _) _ _ s
 refine wpAny_bind (wpAny_setField ho hd (by simp) ?_)
 refine stopped (x1 := x1) (hot_keep (A := A) hot hx (Heap.SameBut.update ..).extBut) fun g e kp he => ?_
 obtain ⟨o', ho', hc'⟩ := he
 refine wpAny_bind (wpAny_isInstance (T := "StopIteration") (b := true) ⟨o', ho', hc'⟩ isSubtype_stop ?_)
 exact wpAny_pure (hQ g fun b o hb q => kp b o ((Heap.SameBut.update ..).extBut b o hb q))
end
theorem cr_sumH {X : Cx} (hc : L2H.HotC X) : CallR X (.builtin "sum") (rSum X.K) := by
 intro pins s σ H vs us Q I r h
 obtain ⟨a, ns, rfl, hs, q⟩ := h
 obtain ⟨its, rv, hl, _⟩ := I.list hs
 obtain ⟨x1, hot⟩ := hc.at I
 rw [Vals.ref1 r]
 exact sum_rawH hot hl.isList rv.ints fun h' tk t' hk => ⟨.int _, H, I.kept hk, ⟨_, rfl⟩, q⟩
end Hh
namespace Zt
open PySem PySem.Spec PyProof.Rows L2
def InB (B : Int) (ns : List Int) : Prop := ∀ m ∈ ns, 0 ≤ m ∧ m + 1 < B
theorem pow_pos' {B : Int} (hB : 0 < B) : ∀ n : Nat, 0 < B ^ n
 | 0 => by rw [Int.pow_zero]; decide
 | n + 1 => by rw [Int.pow_succ]; exact Int.mul_pos (pow_pos' hB n) hB
theorem cdP_bd {B : Int} (hB : 0 < B) : ∀ (n : Nat) (ns : List Int), ns.length ≤ n → InB B ns → 0 ≤ cdP B n ns ∧ cdP B n ns < B ^ n
 | n, [], _, _ => by
   have := pow_pos' hB n
   cases n <;> exact ⟨Int.le_refl _, this⟩
 | 0, _ :: _, h, _ => by simp at h
 | n + 1, p :: ns, hl, h => by
   obtain ⟨a, b⟩ := cdP_bd hB n ns (by simpa using hl) fun m hm => h m (List.mem_cons_of_mem _ hm)
   obtain ⟨c, d⟩ := h p (List.mem_cons_self ..)
   have hp := pow_pos' hB n
   show 0 ≤ (p + 1) * B ^ n + cdP B n ns ∧ (p + 1) * B ^ n + cdP B n ns < B ^ (n + 1)
   rw [Int.pow_succ, Int.mul_comm (B ^ n) B]
   generalize B ^ n = P at *
   generalize cdP B n ns = c0 at *
   have e1 : 0 ≤ (p + 1) * P := Int.mul_nonneg (by omega) (by omega)
   have e2 : (p + 1 + 1) * P ≤ B * P := Int.mul_le_mul_of_nonneg_right (by omega) (by omega)
   rw [Int.add_mul, Int.one_mul] at e2
   constructor <;> omega
theorem cdP_lt {B : Int} (hB : 0 < B) {n : Nat} {p q : Int} {ns ms : List Int} (l1 : ns.length ≤ n) (l2 : ms.length ≤ n) (h1 : InB B ns) (h2 : InB B ms) (h : p < q) : cdP B (n + 1) (p :: ns) < cdP B (n + 1) (q :: ms) := by
 obtain ⟨a, b⟩ := cdP_bd hB n ns l1 h1
 obtain ⟨c, d⟩ := cdP_bd hB n ms l2 h2
 show (p + 1) * B ^ n + cdP B n ns < (q + 1) * B ^ n + cdP B n ms
 have e : (p + 1 + 1) * B ^ n ≤ (q + 1) * B ^ n := Int.mul_le_mul_of_nonneg_right (by omega) (Int.le_of_lt (pow_pos' hB n))
 rw [Int.add_mul, Int.one_mul] at e
 omega
theorem cdP_pos {B : Int} (hB : 0 < B) {n : Nat} {p : Int} {ns : List Int} (l : ns.length ≤ n) (h : InB B (p :: ns)) : 0 < cdP B (n + 1) (p :: ns) := by
 obtain ⟨a, _⟩ := cdP_bd hB n ns l fun m hm => h m (List.mem_cons_of_mem _ hm)
 have := (h p (List.mem_cons_self ..)).1
 have e : 0 < (p + 1) * B ^ n := Int.mul_pos (by omega) (pow_pos' hB n)
 show 0 < (p + 1) * B ^ n + cdP B n ns
 omega
theorem cdP_inj {B : Int} (hB : 0 < B) : ∀ (n : Nat) (ns ms : List Int), ns.length ≤ n → ms.length ≤ n → InB B ns → InB B ms → cdP B n ns = cdP B n ms → ns = ms
 | _, [], [], _, _, _, _, _ => rfl
 | 0, _ :: _, _, h, _, _, _, _ => by simp at h
 | 0, [], _ :: _, _, h, _, _, _ => by simp at h
 | n + 1, [], q :: ms, _, l2, _, h2, e => by
   have := cdP_pos hB (by simpa using l2) h2
   have e : (0 : Int) = _ := e
   omega
 | n + 1, p :: ns, [], l1, _, h1, _, e => by
   have := cdP_pos hB (by simpa using l1) h1
   have e : _ = (0 : Int) := e
   omega
 | n + 1, p :: ns, q :: ms, l1, l2, h1, h2, e => by
   have k1 : ns.length ≤ n := by simpa using l1
   have k2 : ms.length ≤ n := by simpa using l2
   have g1 : InB B ns := fun m hm => h1 m (List.mem_cons_of_mem _ hm)
   have g2 : InB B ms := fun m hm => h2 m (List.mem_cons_of_mem _ hm)
   rcases Int.lt_trichotomy p q with c | c | c
   · have := cdP_lt hB k1 k2 g1 g2 c
     omega
   · rw [c] at e ⊢
     have e : (q + 1) * B ^ n + cdP B n ns = (q + 1) * B ^ n + cdP B n ms := e
     rw [cdP_inj hB n ns ms k1 k2 g1 g2 (by omega)]
   · have := cdP_lt hB k2 k1 g2 g1 c
     omega
section
variable {prog : Program} {w : World} {A : Around} {E : Value → Shared → Prop} {s : Shared}
theorem lexP {B : Int} (hB : 0 < B) {b fin : Bool} {Q : Bool → Shared → Prop} : ∀ (n : Nat) {xs ys : List Value} {ns ms : List Int} (i : Nat), IntsAre xs ns → IntsAre ys ms → ns.length ≤ n → ms.length ≤ n → InB B ns → InB B ms →
   fin = decide (ns.length < ms.length) → Q (decide (cdP B n ns < cdP B n ms)) s → PySem.W.KatLex prog w A b fin Q (xs.zip ys) i s
 | n, [], ys, _, ms, i, .nil, hy, _, l2, _, h2, hf, hQ => by
   refine PySem.W.kat_nil ?_
   have e : decide (cdP B n [] < cdP B n ms) = fin := by
     rw [hf]
     refine decide_eq_decide.mpr ?_
     cases ms with
     | nil => cases n <;> simp [cdP]
     | cons q ms =>
       cases n with
       | zero => simp at l2
       | succ n =>
         have := cdP_pos hB (by simpa using l2) h2
         exact ⟨fun _ => by simp, fun _ => this⟩
   rw [← e]
   exact hQ
 | n, _ :: xs, [], _, _, i, .cons (ns := ns) p t hx, .nil, l1, _, h1, _, hf, hQ => by
   refine PySem.W.kat_nil ?_
   have e : decide (cdP B n (p :: ns) < cdP B n []) = fin := by
     rw [hf]
     refine decide_eq_decide.mpr ⟨fun w => ?_, fun w => by simp at w⟩
     cases n with
     | zero => simp at l1
     | succ n =>
       have := cdP_pos hB (by simpa using l1) h1
       have w : _ < (0 : Int) := w
       omega
   rw [← e]
   exact hQ
 | 0, _ :: _, _ :: _, _, _, _, .cons .., .cons .., l1, _, _, _, _, _ => by simp at l1
 | n + 1, _ :: xs, _ :: ys, _, _, i, .cons (ns := ns) p t hx, .cons (ns := ms) q u hy, l1, l2, h1, h2, hf, hQ => by
   have k1 : ns.length ≤ n := by simpa using l1
   have k2 : ms.length ≤ n := by simpa using l2
   have g1 : InB B ns := fun m hm => h1 m (List.mem_cons_of_mem _ hm)
   have g2 : InB B ms := fun m hm => h2 m (List.mem_cons_of_mem _ hm)
   rw [List.zip_cons_cons]
   refine PySem.W.kat_cons (wpAny_eqBool_int ?_)
   by_cases c : p = q
   · rw [beq_iff_eq.mpr c]
     refine PySem.W.kat_yes (lexP hB n (i + 1) hx hy k1 k2 g1 g2 (by rw [hf]; simp) ?_)
     rw [c] at hQ
     have e : decide (cdP B (n + 1) (q :: ns) < cdP B (n + 1) (q :: ms)) = decide (cdP B n ns < cdP B n ms) := decide_eq_decide.mpr (by
       show (q + 1) * B ^ n + cdP B n ns < (q + 1) * B ^ n + cdP B n ms ↔ _
       constructor <;> intro z <;> omega)
     rw [← e]
     exact hQ
   · rw [beq_eq_false_iff_ne.mpr c]
     refine PySem.W.kat_no (TS.oneLt_ints _ ?_)
     have e : decide (cdP B (n + 1) (p :: ns) < cdP B (n + 1) (q :: ms)) = decide (p < q) := by
       refine decide_eq_decide.mpr ⟨fun z => ?_, cdP_lt hB k1 k2 g1 g2⟩
       refine Classical.byContradiction fun y => ?_
       have := cdP_lt hB k2 k1 g2 g1 (show q < p by omega)
       omega
     rw [← e]
     exact hQ
def RowsOk (h : Heap) (D : Nat) (B : Int) (vs : List Value) : Prop := ∀ v ∈ vs, ∃ ns, TS.TupInts h v ns ∧ 1 ≤ ns.length ∧ ns.length ≤ D ∧ InB B ns
theorem RowsOk.keeps {h g : Heap} {D : Nat} {B : Int} {vs : List Value} (x : RowsOk h D B vs) (k : ∀ b o, h.get? b = some o → o.cls = .type "tuple" → g.get? b = some o) : RowsOk g D B vs := fun v hv => by
 obtain ⟨ns, t, r⟩ := x v hv
 exact ⟨ns, t.keeps k, r⟩
theorem fronts {h : Heap} {D : Nat} {B : Int} : ∀ vs : List Value, RowsOk h D B vs → ∃ fs, PySem.W.KatTups h vs fs ∧ fs.length = vs.length ∧ ∀ f ∈ fs, ∃ n t, f = Value.int n t
 | [], _ => ⟨[], PySem.W.KatTups.nil, rfl, fun f hf => by cases hf⟩
 | v :: vs, x => by
   obtain ⟨fs, f1, f2, f3⟩ := fronts vs fun u hu => x u (List.mem_cons_of_mem _ hu)
   obtain ⟨ns, ⟨a, xs, rfl, ⟨o, ho, hc, k, hd⟩, ia⟩, hn, _⟩ := x v (List.mem_cons_self ..)
   cases q : xs.toList with
   | nil =>
     rw [q] at ia
     have := ia.length
     rw [List.length_nil] at this
     omega
   | cons y ys =>
     obtain ⟨m, t, hy⟩ := ia.all y (by rw [q]; exact List.mem_cons_self ..)
     have g0 : xs[0]? = some y := by
       have := congrArg (fun l : List Value => l[0]?) q
       simpa using this
     refine ⟨y :: fs, PySem.W.KatTups.cons ho hc hd g0 f1, by rw [List.length_cons, List.length_cons, f2], fun f hf => ?_⟩
     rcases List.mem_cons.mp hf with e | hf
     · exact ⟨m, t, e.trans hy⟩
     · exact f3 f hf
theorem kindP {D : Nat} {B : Int} (hB : 0 < B) {vs : List Value} (h2 : 2 ≤ vs.length) (x : RowsOk s.heap D B vs) (r : Value → Int) (hr : ∀ v ∈ vs, ∀ ns, TS.TupInts s.heap v ns → r v = cdP B D ns) (Q : SortKind → Shared → Prop) (h : ∀ κ, TS.Cmp prog w A s κ (pairsOf vs) r → Q κ s) :
   wpAny (model prog w) A (keyKind' vs.toArray) Q E s := by
 obtain ⟨fs, f1, f2, f3⟩ := fronts vs x
 have types : ∀ f ∈ fs, PySem.W.Looks (model prog w) s.heap (typeOf f) (.type "int") := fun f hf => by
   obtain ⟨n, t, rfl⟩ := f3 f hf
   exact PySem.W.Looks.of_pure rfl
 refine PySem.W.kat_kind f1 (by omega) types rfl (h _ fun p q hp hq Q2 E2 hQ => ?_)
 rw [pairsOf_toList] at hp hq
 have mp := (mem_zip_self hp).2
 have mq := (mem_zip_self hq).2
 obtain ⟨ns, tp, _, lp, bp⟩ := x _ mp
 obtain ⟨ms, tq, _, lq, bq⟩ := x _ mq
 rw [hr _ mp _ tp, hr _ mq _ tq] at hQ
 obtain ⟨a1, xs, e1, ⟨o1, ho1, _, k1, d1⟩, i1⟩ := tp
 obtain ⟨a2, ys, e2, ⟨o2, ho2, _, k2, d2⟩, i2⟩ := tq
 rw [e1, e2]
 refine PySem.W.kat_lt ho1 d1 ho2 d2 (lexP hB D 0 i1 i2 lp lq bp bq ?_ hQ)
 rw [← i1.length, ← i2.length, Array.length_toList, Array.length_toList]
theorem sortP {a : Addr} {vs : List Value} {n D : Nat} {B : Int} {P : PySem.Fin → Shared → Prop} (hB : 0 < B) (ho : s.heap.get? a = some (seqObj "list" vs.toArray n)) (h64 : vs.length < 64) (x : 2 ≤ vs.length → RowsOk s.heap D B vs) (r : Value → Int)
   (hr : ∀ v ∈ vs, ∀ ns, TS.TupInts s.heap v ns → r v = cdP B D ns) (h : ∀ out : Array Value, out.toList.Perm vs → out.toList.Pairwise (fun u v => r u ≤ r v) → P (.done (.ret .none)) { s with heap := sortedHeap s.heap a vs out }) :
   wpAny (model prog w) A (Builtin.«list.sort» ⟨[.ref a], []⟩) P E s := by
 have keep : ∀ b o, s.heap.get? b = some o → o.cls = .type "tuple" → (TS.midHeap s.heap a vs).get? b = some o := fun b o e hc => TS.midHeap_old (fun hb => by
   rw [hb, ho] at e
   cases e
   have c : Value.type "list" = Value.type "tuple" := hc
   injection c with c
   exact absurd c (by decide)) e
 refine SK.plain_sort (r := r) ho h64 (fun h2 Q hQ => ?_) fun ps out h1 h2 h3 => h out (TS.out_rank h1 h2 h3).1 (TS.out_rank h1 h2 h3).2
 refine kindP (s := { s with heap := TS.midHeap s.heap a vs }) (D := D) hB h2 ((x h2).keeps keep) r (fun v hv ns t => ?_) Q hQ
 obtain ⟨ns0, t0, _⟩ := x h2 v hv
 rw [show ns = ns0 from t.ints.symm.trans (t0.keeps keep).ints]
 exact hr v hv ns0 t0
theorem sortedP {l : Addr} {vs : List Value} {D : Nat} {B : Int} {Q : Value → Shared → Prop} (hB : 0 < B) (hl : s.heap.IsList l vs.toArray) (h64 : vs.length < 64) (x : 2 ≤ vs.length → RowsOk s.heap D B vs) (tt : ∀ v ∈ vs, ∃ ns, TS.TupInts s.heap v ns)
   (h : ∀ out : Array Value, out.toList.Perm vs → out.toList.Pairwise (fun u v => cdP B D (TS.intsOf s.heap u) ≤ cdP B D (TS.intsOf s.heap v)) → Q (.ref (s.heap.objs.size + 1)) { s with heap := sortedAll s.heap vs out }) :
   wpAny (model prog w) A (call (.builtin "sorted") [.ref l]) Q E s := by
 refine Calls.call_function_entry kind_sorted plain_sorted entry_sorted (args_sorted1 _) ?_
 unfold Builtin.«sorted»
 refine wpAny_bind (m := checkCount "sorted" 1 1 _) (wpAny_pure (wpAny_bind (collect_list hl ?_ (by rw [sizeLine_eq]; omega))))
 refine wpAny_bind (wpAny_newList ?_ (by rw [sizeLine_eq]; omega))
 generalize hg : (s.heap.push (seqObj "list" #[] 0)).update s.heap.objs.size (Obj.mapSeq (· ++ vs.toArray)) = g
 have sz : g.objs.size = s.heap.objs.size + 1 := by rw [← hg, Heap.size_update, size_push']
 have hoL : (g.push (seqObj "list" vs.toArray 0)).get? (s.heap.objs.size + 1) = some (seqObj "list" vs.toArray 0) := by
   rw [← sz]
   exact Heap.get?_push_size _ rfl
 have keep : ∀ b o, s.heap.get? b = some o → o.cls = .type "tuple" → (g.push (seqObj "list" vs.toArray 0)).get? b = some o := fun b o q _ => by
   have lt : b < s.heap.objs.size := Heap.lt_size q
   rw [Heap.get?_push_ne _ _ _ (by rw [sz]; exact Nat.ne_of_lt (Nat.lt_succ_of_lt lt)), ← hg, Heap.get?_update_ne _ _ _ _ (Nat.ne_of_lt lt), Heap.get?_push_ne _ _ _ (Nat.ne_of_lt lt)]
   exact q
 show wpAny _ _ _ _ _ { s with heap := g.push (seqObj "list" vs.toArray 0) }
 rw [sz]
 have rk : ∀ v ∈ vs, ∀ ns, TS.TupInts (g.push (seqObj "list" vs.toArray 0)) v ns → cdP B D (TS.intsOf s.heap v) = cdP B D ns := fun v hv ns t => by
   obtain ⟨ns0, t0⟩ := tt v hv
   rw [show ns = ns0 from t.ints.symm.trans (t0.keeps keep).ints, t0.ints]
 refine wpAny_bind (wpAny_holding (wpAny_call_entry slot_list_sort ⟨_, hoL, rfl⟩ entry_list_sort (sortP hB hoL h64 (fun h2 => (x h2).keeps keep) _ rk fun out a1 a2 => ⟨_, rfl, wpAny_pure ⟨_, rfl, ?_⟩⟩) (args_list_sort _)))
 have := h out a1 a2
 unfold sortedAll at this
 rw [hg] at this
 exact this
end
section
variable {X : Cx} {pins : List (Addr × Obj)} {σ : St} {H : Hp} {s : Shared}
def rSortV (K : PySem.W.Frag) (D : Nat) (B : Int) : List V → Hp → VK → Prop := fun vs H Q =>
 ∃ (a : Addr) (xs : List V), vs = [V.ref a] ∧ SqL K H a xs ∧ xs.length < 64 ∧ (∀ x ∈ xs, ∃ ns, TupI K H x ns) ∧ (2 ≤ xs.length → ∀ x ∈ xs, ∃ ns, TupI K H x ns ∧ 1 ≤ ns.length ∧ ns.length ≤ D ∧ InB B ns) ∧
   ∀ (ys : List V) (p : Addr), ys.Perm xs → ys.Pairwise (fun x y => ∀ n m, TupI K H x n → TupI K H y m → cdP B D n ≤ cdP B D m) → H p = none → Q (.ref p) (upd H p (.lst ys))
theorem cr_sortV {D : Nat} {B : Int} (hB : 0 < B) : CallR X (.builtin "sorted") (rSortV X.K D B) := by
 intro pins s σ H vs us Q I r h
 obtain ⟨a, xs, e0, hs, h64, ht, h2, q⟩ := h
 subst e0
 obtain ⟨its, rv, hl, hz⟩ := I.list hs
 rw [Vals.ref1 r]
 obtain ⟨e1, e2⟩ := bkV_refs rv fun x hx => (ht x hx).elim fun _ w => w.elim fun t w => ⟨t, w.1⟩
 have back : ∀ v ∈ its, ∃ t, v = .ref t ∧ V.ref t ∈ xs := fun v hv => by
   obtain ⟨t, et⟩ := e2 v hv
   refine ⟨t, et, ?_⟩
   rw [e1]
   exact List.mem_map.mpr ⟨v, hv, by rw [et]; rfl⟩
 refine sortedP (D := D) hB hl.isList (by rw [← rv.length]; exact h64) (fun hh v hv => ?_) (fun v hv => ?_) fun out o1 o2 => ?_
 · obtain ⟨t, et, hm⟩ := back v hv
   obtain ⟨ns, ⟨t2, e3, hT⟩, w⟩ := h2 (by rw [rv.length]; exact hh) _ hm
   cases e3
   exact ⟨ns, et ▸ tupI_raw I hT, w⟩
 · obtain ⟨t, et, hm⟩ := back v hv
   obtain ⟨ns, t2, e3, hT⟩ := ht _ hm
   cases e3
   exact ⟨ns, et ▸ tupI_raw I hT⟩
 · obtain ⟨ep, he⟩ := PyProof.Rows.sortedAll_at s.heap its out
   have refs : ∀ u ∈ out.toList, ∃ a, u = Value.ref a := fun u hu => e2 u (o1.mem_iff.mp hu)
   have perm : (out.toList.map bkV).Perm xs := e1 ▸ o1.map bkV
   have room : (out.toList.map bkV).length ≤ sizeLine := perm.length_eq ▸ hz
   have pw : (out.toList.map bkV).Pairwise fun x y => ∀ n m, TupI X.K H x n → TupI X.K H y m → cdP B D n ≤ cdP B D m := by
     rw [List.pairwise_map]
     refine o2.imp fun {u v} huv n m hn hm => ?_
     obtain ⟨t, et, hT⟩ := hn
     obtain ⟨t2, et2, hT2⟩ := hm
     have := huv
     rw [bkV_ref et, bkV_ref et2, (tupI_raw I hT).ints, (tupI_raw I hT2).ints] at this
     exact this
   exact ⟨.ref _, upd H (s.heap.objs.size + 1) (.lst (out.toList.map bkV)), I.laid (t' := s.toks) (fun _ _ => PyProof.Rows.sortedAll_old) (Nat.le_succ _) ⟨room, out.toList, ep, bkV_vals refs, he⟩, rfl, q _ _ perm pw (I.hok.fresh (Nat.le_succ _))⟩
end
theorem insT_perm (x : List Int) : ∀ l : List (List Int), (insT x l).Perm (x :: l)
 | [] => .refl _
 | y :: r => by
   unfold insT
   split
   · exact .refl _
   · exact ((insT_perm x r).cons y).trans (.swap x y r)
theorem sortT_perm : ∀ l : List (List Int), (sortT l).Perm l
 | [] => .refl _
 | x :: r => (insT_perm x (sortT r)).trans ((sortT_perm r).cons x)
theorem insT_rise (x : List Int) : ∀ {l : List (List Int)}, l.Pairwise (fun a b => cdP 1048576 60 a ≤ cdP 1048576 60 b) → (insT x l).Pairwise (fun a b => cdP 1048576 60 a ≤ cdP 1048576 60 b)
 | [], _ => by simp [insT]
 | y :: r, h => by
   unfold insT
   rw [List.pairwise_cons] at h
   split
   · rename_i hx
     refine List.pairwise_cons.mpr ⟨fun z hz => ?_, List.pairwise_cons.mpr h⟩
     rcases List.mem_cons.mp hz with e | hz
     · rw [e]; exact hx
     · exact Int.le_trans hx (h.1 z hz)
   · rename_i hx
     refine List.pairwise_cons.mpr ⟨fun z hz => ?_, insT_rise x h.2⟩
     rcases List.mem_cons.mp ((insT_perm x r).mem_iff.mp hz) with e | hz
     · rw [e]; omega
     · exact h.1 z hz
theorem sortT_rise : ∀ l : List (List Int), (sortT l).Pairwise (fun a b => cdP 1048576 60 a ≤ cdP 1048576 60 b)
 | [] => .nil
 | x :: r => insT_rise x (sortT_rise r)
theorem riseT_eq : ∀ {xs ys : List (List Int)}, (∀ x ∈ xs, x.length ≤ 60 ∧ InB 1048576 x) → xs.Perm ys → xs.Pairwise (fun a b => cdP 1048576 60 a ≤ cdP 1048576 60 b) → ys.Pairwise (fun a b => cdP 1048576 60 a ≤ cdP 1048576 60 b) → xs = ys
 | [], ys, _, p, _, _ => p.nil_eq
 | x :: xs, [], _, p, _, _ => by cases p.length_eq
 | x :: xs, y :: ys, ok, p, h1, h2 => by
   rw [List.pairwise_cons] at h1 h2
   have e : x = y := by
     have hy : y ∈ x :: xs := p.mem_iff.mpr (List.mem_cons_self ..)
     have hx : x ∈ y :: ys := p.mem_iff.mp (List.mem_cons_self ..)
     have a : cdP 1048576 60 x ≤ cdP 1048576 60 y := by
       rcases List.mem_cons.mp hy with e | hy
       · rw [e]; exact Int.le_refl _
       · exact h1.1 y hy
     have b : cdP 1048576 60 y ≤ cdP 1048576 60 x := by
       rcases List.mem_cons.mp hx with e | hx
       · rw [e]; exact Int.le_refl _
       · exact h2.1 x hx
     exact cdP_inj (by decide) 60 x y (ok x (List.mem_cons_self ..)).1 (ok y hy).1 (ok x (List.mem_cons_self ..)).2 (ok y hy).2 (Int.le_antisymm a b)
   subst e
   rw [riseT_eq (fun z hz => ok z (List.mem_cons_of_mem _ hz)) (List.Perm.cons_inv p) h1.2 h2.2]
section
variable {K : PySem.W.Frag} {ι : Io} {H : Hp}
theorem DenL.perm : ∀ {xs ys : List V}, xs.Perm ys → ∀ {ds : List D}, DenL K ι H xs ds → ∃ es, ds.Perm es ∧ DenL K ι H ys es := by
 intro xs ys p
 induction p with
 | nil => exact fun {ds} h => ⟨ds, .refl _, h⟩
 | cons x p ih =>
   intro ds h
   cases h with
   | cons a b =>
     obtain ⟨es, e1, e2⟩ := ih b
     exact ⟨_ :: es, e1.cons _, .cons a e2⟩
 | swap x y l =>
   intro ds h
   cases h with
   | cons a b =>
     cases b with
     | cons b c => exact ⟨_, .swap _ _ _, .cons b (.cons a c)⟩
 | trans p q ih1 ih2 =>
   intro ds h
   obtain ⟨es, e1, e2⟩ := ih1 h
   obtain ⟨fs, f1, f2⟩ := ih2 e2
   exact ⟨fs, e1.trans f1, f2⟩
theorem tups_cons {d : D} {ds : List D} {nss : List (List Int)} (h : tupsOf (d :: ds) = some nss) : ∃ xs ns r, d = .tuple xs ∧ intsOf xs = some ns ∧ tupsOf ds = some r ∧ nss = ns :: r := by
 cases d with
 | tuple xs =>
   unfold tupsOf at h
   cases h1 : intsOf xs with
   | none => rw [h1] at h; simp at h
   | some ns =>
     cases h2 : tupsOf ds with
     | none => rw [h1, h2] at h; simp at h
     | some r =>
       rw [h1, h2] at h
       cases h
       exact ⟨xs, ns, r, rfl, h1, rfl, rfl⟩
 | _ => cases h
theorem tups_mk {xs : List D} {ds : List D} {ns : List Int} {r : List (List Int)} (h1 : intsOf xs = some ns) (h2 : tupsOf ds = some r) : tupsOf (.tuple xs :: ds) = some (ns :: r) := by
 unfold tupsOf
 rw [h1, h2]
theorem tups_perm : ∀ {ds es : List D}, ds.Perm es → ∀ {nss : List (List Int)}, tupsOf ds = some nss → ∃ mss, tupsOf es = some mss ∧ nss.Perm mss := by
 intro ds es p
 induction p with
 | nil => exact fun {nss} h => ⟨nss, h, .refl _⟩
 | cons x p ih =>
   intro nss h
   obtain ⟨xs, ns, r, rfl, h1, h2, rfl⟩ := tups_cons h
   obtain ⟨mss, a, b⟩ := ih h2
   exact ⟨ns :: mss, tups_mk h1 a, b.cons _⟩
 | swap x y l =>
   intro nss h
   obtain ⟨xs, ns, r, rfl, h1, h2, rfl⟩ := tups_cons h
   obtain ⟨ys, ms, r2, rfl, h3, h4, rfl⟩ := tups_cons h2
   exact ⟨_, tups_mk h3 (tups_mk h1 h4), .swap _ _ _⟩
 | trans p q ih1 ih2 =>
   intro nss h
   obtain ⟨a, a1, a2⟩ := ih1 h
   obtain ⟨b, b1, b2⟩ := ih2 a1
   exact ⟨b, b1, a2.trans b2⟩
theorem ints_of : ∀ {xs : List D} {ns : List Int}, intsOf xs = some ns → xs = ns.map .int
 | [], _, h => by cases h; rfl
 | x :: xs, ns, h => by
   cases x with
   | int i =>
     cases q : intsOf xs with
     | none => rw [intsOf, q] at h; cases h
     | some m =>
       rw [intsOf, q] at h
       cases h
       rw [List.map_cons, ← ints_of q]
   | _ => cases h
theorem tups_map : ∀ {ds : List D} {nss : List (List Int)}, tupsOf ds = some nss → ds = nss.map fun ns => .tuple (ns.map .int)
 | [], _, h => by cases h; rfl
 | d :: ds, nss, h => by
   obtain ⟨xs, ns, r, rfl, h1, h2, rfl⟩ := tups_cons h
   rw [List.map_cons, ← tups_map h2, ← ints_of h1]
theorem tup_of {v : V} {xs : List D} {ns : List Int} (d : Den K ι H v (.tuple xs)) (h : intsOf xs = some ns) : TupI K H v ns := by
 obtain ⟨a, vs, rfl, h1, _, l⟩ := id d.tup_inv
 obtain ⟨e, _⟩ := l.ofInts h
 refine ⟨a, rfl, ?_⟩
 rw [← e]
 exact h1.imp (fun z => .inl z.2) And.left
theorem tups_each : ∀ {vs : List V} {ds : List D} {nss : List (List Int)}, DenL K ι H vs ds → tupsOf ds = some nss → (∀ v ∈ vs, ∃ ns ∈ nss, TupI K H v ns) ∧ ∀ ns ∈ nss, ∃ v ∈ vs, TupI K H v ns
 | _, _, _, .nil, h => by cases h; exact ⟨fun _ h => (by cases h), fun _ h => (by cases h)⟩
 | _, _, _, .cons a b, h => by
   obtain ⟨xs, ns, r, rfl, h1, h2, rfl⟩ := tups_cons h
   obtain ⟨i1, i2⟩ := tups_each b h2
   have t := tup_of a h1
   refine ⟨fun v hv => ?_, fun n hn => ?_⟩
   · rcases List.mem_cons.mp hv with rfl | hv
     · exact ⟨ns, List.mem_cons_self .., t⟩
     · obtain ⟨n, hn, w⟩ := i1 v hv
       exact ⟨n, List.mem_cons_of_mem _ hn, w⟩
   · rcases List.mem_cons.mp hn with rfl | hn
     · exact ⟨_, List.mem_cons_self .., t⟩
     · obtain ⟨v, hv, w⟩ := i2 n hn
       exact ⟨v, List.mem_cons_of_mem _ hv, w⟩
theorem tups_pw {P : List Int → List Int → Prop} : ∀ {vs : List V} {ds : List D} {nss : List (List Int)}, DenL K ι H vs ds → tupsOf ds = some nss → vs.Pairwise (fun x y => ∀ n m, TupI K H x n → TupI K H y m → P n m) → nss.Pairwise P
 | _, _, _, .nil, h, _ => by cases h; exact .nil
 | _, _, _, .cons a b, h, pw => by
   obtain ⟨xs, ns, r, rfl, h1, h2, rfl⟩ := tups_cons h
   rw [List.pairwise_cons] at pw ⊢
   refine ⟨fun m hm => ?_, tups_pw b h2 pw.2⟩
   obtain ⟨v, hv, w⟩ := (tups_each b h2).2 m hm
   exact pw.1 v hv ns m (tup_of a h1) w
theorem sort_data {vs : List V} {ds : List D} {nss : List (List Int)} (l : DenL K ι H vs ds) (h : tupsOf ds = some nss) (ok : nss.length < 2 ∨ okT nss = true) : (∀ v ∈ vs, ∃ ns, TupI K H v ns) ∧ (2 ≤ vs.length → ∀ v ∈ vs, ∃ ns, TupI K H v ns ∧ 1 ≤ ns.length ∧ ns.length ≤ 60 ∧ InB 1048576 ns) ∧
   ∀ ys : List V, ys.Perm vs → ys.Pairwise (fun x y => ∀ n m, TupI K H x n → TupI K H y m → cdP 1048576 60 n ≤ cdP 1048576 60 m) → DenL K ι H ys ((sortT nss).map fun ns => .tuple (ns.map .int)) := by
 obtain ⟨i1, i2⟩ := tups_each l h
 have hlen : vs.length = nss.length := by
   rw [l.length, tups_map h, List.length_map]
 have okm : okT nss = true → ∀ ns ∈ nss, 1 ≤ ns.length ∧ ns.length ≤ 60 ∧ InB 1048576 ns := fun ho ns hn => by
   have := List.all_eq_true.mp ho ns hn
   simp only [Bool.and_eq_true, decide_eq_true_eq, List.all_eq_true] at this
   exact ⟨this.1.1, this.1.2, this.2⟩
 refine ⟨fun v hv => ?_, fun h2 v hv => ?_, fun ys p pw => ?_⟩
 · obtain ⟨n, _, w⟩ := i1 v hv
   exact ⟨n, w⟩
 · obtain ⟨n, hn, w⟩ := i1 v hv
   exact ⟨n, w, okm (ok.resolve_left (by omega)) n hn⟩
 · obtain ⟨es, p1, l1⟩ := l.perm p.symm
   obtain ⟨mss, h1, p2⟩ := tups_perm p1 h
   have pm := tups_pw l1 h1 pw
   have e : sortT nss = mss := by
     rcases ok with ok | ok
     · match nss, ok, p2 with
       | [], _, p2 => exact p2.nil_eq
       | [x], _, p2 => exact p2.singleton_eq
     · exact riseT_eq (fun x hx => (okm ok x ((sortT_perm nss).mem_iff.mp hx)).2) ((sortT_perm nss).trans p2) (sortT_rise nss) pm
   rw [e, ← tups_map h1]
   exact l1
theorem sort_len {vs : List V} {ds : List D} {nss : List (List Int)} (l : DenL K ι H vs ds) (h : tupsOf ds = some nss) : vs.length = nss.length := by
 rw [l.length, tups_map h, List.length_map]
theorem sort_cond {nss : List (List Int)} (h : (nss.length < 64 && (decide (nss.length < 2) || okT nss)) = true) : nss.length < 64 ∧ (nss.length < 2 ∨ okT nss = true) := by
 simpa only [Bool.and_eq_true, Bool.or_eq_true, decide_eq_true_eq] using h
end
end Zt
namespace Zt
open PySem PySem.Spec PyProof.Rows L2
section
variable {W : Wd} {X : Cx}
theorem insI_perm (x : Int) : ∀ l : List Int, (insI x l).Perm (x :: l)
 | [] => .refl _
 | y :: r => by
   unfold insI
   split
   · exact .refl _
   · exact ((insI_perm x r).cons y).trans (.swap x y r)
theorem sortI_perm : ∀ l : List Int, (sortI l).Perm l
 | [] => .refl _
 | x :: r => (insI_perm x (sortI r)).trans ((sortI_perm r).cons x)
theorem insI_rise (x : Int) : ∀ {l : List Int}, l.Pairwise (· ≤ ·) → (insI x l).Pairwise (· ≤ ·)
 | [], _ => by simp [insI]
 | y :: r, h => by
   unfold insI
   rw [List.pairwise_cons] at h
   split
   · rename_i hx
     rw [List.pairwise_cons]
     refine ⟨fun z hz => ?_, by rw [List.pairwise_cons]; exact h⟩
     rcases List.mem_cons.mp hz with e | e
     · rw [e]; exact hx
     · exact Int.le_trans hx (h.1 z e)
   · rename_i hx
     rw [List.pairwise_cons]
     refine ⟨fun z hz => ?_, insI_rise x h.2⟩
     rcases List.mem_cons.mp ((insI_perm x r).mem_iff.mp hz) with e | e
     · rw [e]; omega
     · exact h.1 z e
theorem sortI_rise : ∀ l : List Int, (sortI l).Pairwise (· ≤ ·)
 | [] => .nil
 | x :: r => insI_rise x (sortI_rise r)
theorem rise_eq {l m : List Int} (p : l.Perm m) (a : l.Pairwise (· ≤ ·)) (b : m.Pairwise (· ≤ ·)) : l = m :=
 p.eq_of_pairwise (fun x y _ _ h k => Int.le_antisymm h k) a b
theorem lt_asym {a b : List Nat} (h : a < b) : ¬ b < a := fun k => List.lt_irrefl a (List.lt_trans h k)
theorem le_anti {a b : List Nat} (h : ¬ b < a) (k : ¬ a < b) : a = b := List.le_antisymm (List.not_lt.mp h) (List.not_lt.mp k)
def RiseS (l : List Str) : Prop := l.Pairwise fun a b => ¬ b.cps.toList < a.cps.toList
theorem insS_perm (x : Str) : ∀ l : List Str, (insS x l).Perm (x :: l)
 | [] => .refl _
 | y :: r => by
   unfold insS
   split
   · exact ((insS_perm x r).cons y).trans (.swap x y r)
   · exact .refl _
theorem sortS_perm : ∀ l : List Str, (sortS l).Perm l
 | [] => .refl _
 | x :: r => (insS_perm x (sortS r)).trans ((sortS_perm r).cons x)
theorem nlt_trans {a b c : List Nat} (h : ¬ b < a) (k : ¬ c < b) : ¬ c < a := by
 have h1 : a ≤ b := List.not_lt.mp h
 have h2 : b ≤ c := List.not_lt.mp k
 exact List.not_lt.mpr (List.le_trans h1 h2)
theorem insS_rise (x : Str) : ∀ {l : List Str}, RiseS l → RiseS (insS x l)
 | [], _ => by simp [insS, RiseS]
 | y :: r, h => by
   unfold insS
   unfold RiseS at h
   rw [List.pairwise_cons] at h
   split
   · rename_i hx
     have hx : y.cps.toList < x.cps.toList := of_decide_eq_true hx
     unfold RiseS
     rw [List.pairwise_cons]
     refine ⟨fun z hz => ?_, insS_rise x h.2⟩
     rcases List.mem_cons.mp ((insS_perm x r).mem_iff.mp hz) with e | e
     · rw [e]; exact lt_asym hx
     · exact h.1 z e
   · rename_i hx
     have hx : ¬ y.cps.toList < x.cps.toList := fun z => hx (decide_eq_true z)
     unfold RiseS
     rw [List.pairwise_cons]
     refine ⟨fun z hz => ?_, by rw [List.pairwise_cons]; exact h⟩
     rcases List.mem_cons.mp hz with e | e
     · rw [e]; exact hx
     · exact nlt_trans hx (h.1 z e)
theorem sortS_rise : ∀ l : List Str, RiseS (sortS l)
 | [] => .nil
 | x :: r => insS_rise x (sortS_rise r)
theorem riseS_eq {l m : List Str} (p : l.Perm m) (a : RiseS l) (b : RiseS m) : l = m :=
 p.eq_of_pairwise (fun x y _ _ h k => by
   have e := le_anti h k
   obtain ⟨⟨x⟩⟩ := x
   obtain ⟨⟨y⟩⟩ := y
   have e : x = y := e
   rw [e]) a b
theorem ltC : ∀ (a b : List Nat), ltCps a b = true ↔ a < b
 | [], [] => by simp [ltCps]
 | [], _ :: _ => by simp [ltCps]
 | _ :: _, [] => by simp [ltCps]
 | x :: a, y :: b => by
   unfold ltCps
   rw [Bool.or_eq_true, Bool.and_eq_true, ltC a b, List.cons_lt_cons_iff]
   simp
theorem cut1 {x y : Str} {r : List Str} (h : sortedS (x :: y :: r) = true) : ¬ y.cps.toList < x.cps.toList ∧ sortedS (y :: r) = true := by
 have h : (!ltCps y.cps.toList x.cps.toList && risingS y r) = true := h
 rw [Bool.and_eq_true] at h
 refine ⟨fun z => ?_, h.2⟩
 have h1 := h.1
 rw [(ltC _ _).mpr z] at h1
 cases h1
theorem riseS_of : ∀ {l : List Str}, sortedS l = true → RiseS l
 | [], _ => .nil
 | [x], _ => by simp [RiseS]
 | x :: y :: r, h => by
   obtain ⟨h1, h2⟩ := cut1 h
   have ih := riseS_of h2
   unfold RiseS at ih ⊢
   rw [List.pairwise_cons]
   refine ⟨fun z hz => ?_, ih⟩
   rcases List.mem_cons.mp hz with e | e
   · rw [e]; exact h1
   · exact nlt_trans h1 ((List.pairwise_cons.mp ih).1 z e)
def Bi.v : Bi → Value
 | .len => .builtin "len"
 | .tuple => .type "tuple"
 | .list => .type "list"
 | .sum => .builtin "sum"
 | .max => .builtin "max"
 | .min => .builtin "min"
 | .abs => .builtin "abs"
 | .int => .type "int"
 | .str => .type "str"
 | .bool => .type "bool"
 | .sorted => .builtin "sorted"
 | .chars => .type "list"
 | .keys => .type "list"
 | .sortedC => .builtin "sorted"
theorem foldl_max : ∀ (r : List Int) (x : Int), (r.foldl max x = x ∨ r.foldl max x ∈ r) ∧ x ≤ r.foldl max x ∧ ∀ y ∈ r, y ≤ r.foldl max x
 | [], x => ⟨.inl rfl, Int.le_refl _, fun y h => nomatch h⟩
 | z :: r, x => by
   obtain ⟨h1, h2, h3⟩ := foldl_max r (max x z)
   have hm : max x z = x ∨ max x z = z := by omega
   have hx : x ≤ max x z := by omega
   have hz : z ≤ max x z := by omega
   refine ⟨?_, Int.le_trans hx h2, fun y hy => ?_⟩
   · rcases h1 with h1 | h1
     · rcases hm with e | e
       · exact .inl (by show r.foldl max (max x z) = x; rw [h1, e])
       · exact .inr (by show r.foldl max (max x z) ∈ z :: r; rw [h1, e]; exact List.mem_cons_self)
     · exact .inr (List.mem_cons_of_mem _ h1)
   · rcases List.mem_cons.mp hy with e | e
     · rw [e]; exact Int.le_trans hz h2
     · exact h3 y e
theorem foldl_min : ∀ (r : List Int) (x : Int), (r.foldl min x = x ∨ r.foldl min x ∈ r) ∧ r.foldl min x ≤ x ∧ ∀ y ∈ r, r.foldl min x ≤ y
 | [], x => ⟨.inl rfl, Int.le_refl _, fun y h => nomatch h⟩
 | z :: r, x => by
   obtain ⟨h1, h2, h3⟩ := foldl_min r (min x z)
   have hm : min x z = x ∨ min x z = z := by omega
   have hx : min x z ≤ x := by omega
   have hz : min x z ≤ z := by omega
   refine ⟨?_, Int.le_trans h2 hx, fun y hy => ?_⟩
   · rcases h1 with h1 | h1
     · rcases hm with e | e
       · exact .inl (by show r.foldl min (min x z) = x; rw [h1, e])
       · exact .inr (by show r.foldl min (min x z) ∈ z :: r; rw [h1, e]; exact List.mem_cons_self)
     · exact .inr (List.mem_cons_of_mem _ h1)
   · rcases List.mem_cons.mp hy with e | e
     · rw [e]; exact Int.le_trans h2 hz
     · exact h3 y e
theorem max_is {x m : Int} {r : List Int} (h : m ∈ x :: r) (g : ∀ y, y ∈ x :: r → y ≤ m) : r.foldl max x = m := by
 obtain ⟨h1, h2, h3⟩ := foldl_max r x
 refine Int.le_antisymm ?_ ?_
 · rcases h1 with e | e
   · rw [e]; exact g x List.mem_cons_self
   · exact g _ (List.mem_cons_of_mem _ e)
 · rcases List.mem_cons.mp h with e | e
   · rw [e]; exact h2
   · exact h3 m e
theorem min_is {x m : Int} {r : List Int} (h : m ∈ x :: r) (g : ∀ y, y ∈ x :: r → m ≤ y) : r.foldl min x = m := by
 obtain ⟨h1, h2, h3⟩ := foldl_min r x
 refine Int.le_antisymm ?_ ?_
 · rcases List.mem_cons.mp h with e | e
   · rw [e]; exact h2
   · exact h3 m e
 · rcases h1 with e | e
   · rw [e]; exact g x List.mem_cons_self
   · exact g _ (List.mem_cons_of_mem _ e)
theorem DenL.one {K : PySem.W.Frag} {ι : Io} {H : Hp} {vs : List V} {d : D} (l : DenL K ι H vs [d]) : ∃ v, vs = [v] ∧ Den K ι H v d := by
 cases l with
 | cons h l =>
   cases l
   exact ⟨_, rfl, h⟩
theorem DenL.two {K : PySem.W.Frag} {ι : Io} {H : Hp} {vs : List V} {d e : D} (l : DenL K ι H vs [d, e]) : ∃ v w, vs = [v, w] ∧ Den K ι H v d ∧ Den K ι H w e := by
 cases l with
 | cons h l =>
   obtain ⟨w, rfl, k⟩ := l.one
   exact ⟨_, w, rfl, h, k⟩
theorem vals_signs : ∀ (l : List Nat) (vs : List Value), vs.length = l.length → (∀ (j : Nat) (v : Value), vs[j]? = some v → ∃ (c : Nat) (u : Tok), l[j]? = some c ∧ v = Value.str ⟨#[c]⟩ u) → Vals (l.map fun c => V.str ⟨#[c]⟩) vs
 | [], [], _, _ => .nil
 | [], _ :: _, h, _ => nomatch h
 | _ :: _, [], h, _ => nomatch h
 | c :: l, v :: vs, h, k => by
   obtain ⟨c', u, h1, h2⟩ := k 0 v rfl
   cases h1
   subst h2
   exact .cons ⟨u, rfl⟩ (vals_signs l vs (by simpa using h) fun j w hw => k (j + 1) w hw)
theorem DenL.signs {K : PySem.W.Frag} {ι : Io} {H : Hp} (x : Str) : DenL K ι H (x.cps.toList.map fun c => V.str ⟨#[c]⟩) (signsOf x) := by
 unfold signsOf
 generalize x.cps.toList = l
 induction l with
 | nil => exact .nil
 | cons c l ih => exact .cons (.str _) ih
theorem cr_chars {X : Cx} (hc : X.calm = true) : CallR X (.type "list") (fun xs H Q => ∃ x : Str, xs = [.str x] ∧ x.length ≤ slen ∧ ∀ p, H p = none → Q (.ref p) (upd H p (.lst (x.cps.toList.map fun c => V.str ⟨#[c]⟩)))) := by
 intro pins s σ H xs us Q I r h
 obtain ⟨x, rfl, hl, q⟩ := h
 cases r with
 | cons r1 rr =>
   cases rr
   obtain ⟨t, rfl⟩ := r1
   have hz : x.cps.size ≤ sizeLine := Nat.le_trans hl (by decide +kernel)
   refine call_list_str (I.ok.hd hc) x t (fun h' tk acc c' hk hS hacc => ?_) hz
   have hp := I.hok.fresh (Nat.le_refl s.heap.objs.size)
   refine ⟨.ref s.heap.objs.size, upd H s.heap.objs.size (.lst (x.cps.toList.map fun c => V.str ⟨#[c]⟩)), I.laid (t' := tk) hk (Nat.le_refl _) ⟨by rw [List.length_map]; simpa using hz, acc.toList, c', vals_signs _ _ (by simpa using hacc.1) fun j v hv => ?_, by simpa using hS⟩, rfl, q _ hp⟩
   obtain ⟨c, u, h1, h2⟩ := hacc.2 j v (by simpa using hv)
   exact ⟨c, u, by simpa using h1, h2⟩
theorem call_bi (hw : X.w = W.w) (hK : X.K = W.K) (hu : X.A.units + 2 < cLine) (b : Bi) (hc : X.calm = true ∨ (L2H.HotC X ∧ b.walks = false)) : CallR X b.v (rBn W (biz b)) := by
 intro pins s σ H xs us Q I r h
 obtain ⟨ι, M, zs, wx, σ', m, dz, e⟩ := h
 have one : ∀ (n : Nat) (p : Addr), zs = [.r n] → xs = [.ref p] → ι.pl[n]? = some p → wpAny (model X.prog X.w) X.A (call b.v us) (EP X pins σ Q) X.xe s := fun n p ez ex hp => by
   subst ez
   subst ex
   have e : EndG W wx σ' ι H (DenZ W.K) Q (match (generalizing := false) b, M[n]? with
     | .len, some (.lst xs) => .ok (.d (.int xs.length)) M
     | .list, some (.lst xs) => .ok (.d (.list xs)) M
     | .keys, some (.dit kvs) => .ok (.d (.list (kvs.map (·.1)))) M
     | .tuple, some (.lst xs) => .ok (.d (.tuple xs)) M
     | .sorted, some (.lst xs) => R.of ((bid .sorted [.list xs]).map .d) M
     | _, _ => .bad) := e
   cases q : M[n]? with
   | none => rw [q] at e; cases b <;> exact e.elim
   | some o =>
     rw [q] at e
     have c := m.cell q hp
     cases o with
     | lst ds =>
       obtain ⟨ys, h1, l1⟩ := c
       cases b <;> try exact e.elim
       · refine call_len pins s σ H _ us Q I r ⟨_, ys.length, rfl, .inl ⟨ys, .inl (.inl h1), rfl⟩, ?_⟩
         rw [l1.length]
         exact e ι _ H (Ext.refl ι H) m (.d (.int _))
       · exact call_tuple_of pins s σ H _ us Q I r ⟨p, ys, rfl, .inl ⟨.inl (.inl h1), fun l hl => e ι _ _ (Ext.new hl) (m.new hl) (.d (.newT m.has hl l1))⟩⟩
       · exact call_list_of pins s σ H _ us Q I r ⟨p, ys, rfl, .inl (.inl (.inl h1)), fun l hl => e ι _ _ (Ext.new hl) (m.new hl) (.d (.newL m.has hl l1))⟩
       · obtain ⟨z, ez, q⟩ := EndG.of (show EndG W wx σ' ι H (DenZ W.K) Q (R.of ((bid .sorted [.list ds]).map .d) M) from e)
         simp only [bid] at ez
         split at ez
         · rename_i ns q3
           cases ez
           obtain ⟨e1, e2⟩ := l1.ofInts q3
           subst e1
           exact cr_sortedI pins s σ H _ us Q I r ⟨_, ns, rfl, .inl (.inl h1), fun ns' p hp hr hn => by
             have e3 : sortI ns = ns' := rise_eq ((sortI_perm ns).trans hp.symm) (sortI_rise ns) hr
             rw [e3] at q
             exact q _ _ (Ext.new hn) (m.new hn) (.newL m.has hn (DenL.ints ns'))⟩
         · split at ez
           · rename_i ss q4
             split at ez
             · rename_i hl
               cases ez
               obtain ⟨e1, e2⟩ := l1.ofStrs q4
               subst e1
               exact cr_sortedS pins s σ H _ us Q I r ⟨_, ss, rfl, .inl (.inl h1), hl, fun ns' p hp hr hn => by
                 have e3 : sortS ss = ns' := riseS_eq ((sortS_perm ss).trans hp.symm) (sortS_rise ss) (riseS_of hr)
                 rw [e3] at q
                 exact q _ _ (Ext.new hn) (m.new hn) (.newL m.has hn (DenL.strs ns'))⟩
             · cases ez
           · split at ez
             · rename_i nss q5
               split at ez
               · rename_i hl
                 cases ez
                 obtain ⟨g1, g2, g3⟩ := sort_data l1 q5 (sort_cond hl).2
                 exact cr_sortV (D := 60) (B := 1048576) (by decide) pins s σ H _ us Q I r ⟨_, _, rfl, .inl (.inl h1), by rw [sort_len l1 q5]; exact (sort_cond hl).1, hK ▸ g1, hK ▸ g2, fun ys p hp pw hn => q _ _ (Ext.new hn) (m.new hn) (.newL m.has hn (g3 ys hp (hK ▸ pw)))⟩
               · cases ez
             · cases ez
     | frz _ => cases b <;> exact e.elim
     | dic _ => cases b <;> exact e.elim
     | dit kvs =>
       cases b <;> try exact e.elim
       exact cr_keysN hw hK (hc.resolve_right fun z => nomatch z.2) pins s σ H _ us Q I r ⟨ι, p, kvs, rfl, m.dit (.inl q) hp, fun l ws hl dl => e ι _ _ (Ext.new hl) (m.new hl) (.d (.newL m.has hl dl))⟩
     | ins _ _ => cases b <;> exact e.elim
 by_cases hz : ∃ n, zs = [.r n]
 · obtain ⟨n, ez⟩ := hz
   subst ez
   cases dz with
   | cons d l =>
     cases l
     cases d with
     | r hp => exact one n _ rfl rfl hp
 · have e : EndG W wx σ' ι H (DenZ W.K) Q (R.of (((dsOf zs).bind (bid b)).map .d) M) := by
     have : biz b zs M = R.of (((dsOf zs).bind (bid b)).map .d) M := by
       unfold biz
       split
       · rename_i n
         exact absurd ⟨n, rfl⟩ hz
       · rfl
     rw [← this]
     exact e
   cases qs : dsOf zs with
   | none => rw [qs] at e; exact e.elim
   | some ds =>
     rw [qs] at e
     have l := dz.data qs
     obtain ⟨z, ez, q⟩ := EndG.of e
     have ez : bid b ds = some z := ez
     have now : ∀ w : V, Den W.K ι H w z → Q w H := fun w d => q w H (Ext.refl ι H) m d
     unfold bid at ez
     split at ez
     · cases ez
       obtain ⟨w, rfl, d⟩ := l.one
       obtain ⟨_, _, rfl, h1, _, l1⟩ := d.list_inv
       refine call_len pins s σ H _ us Q I r ⟨_, _, rfl, .inl ⟨_, .inl (.inl h1.2), rfl⟩, ?_⟩
       rw [l1.length]
       exact now _ (.int _)
     · cases ez
       obtain ⟨w, rfl, d⟩ := l.one
       obtain ⟨_, _, rfl, h1, _, l1⟩ := id d.tup_inv
       refine call_len pins s σ H _ us Q I r ⟨_, _, rfl, .inr ⟨_, by rw [hK]; exact h1.imp (fun z => .inl z.2) And.left, rfl⟩, ?_⟩
       rw [l1.length]
       exact now _ (.int _)
     · split at ez
       · rename_i hl
         cases ez
         obtain ⟨w, rfl, d⟩ := l.one
         cases d with | str y =>
         exact call_len pins s σ H _ us Q I r ⟨_, _, rfl, ⟨sl_of hl, rfl⟩, now _ (.int _)⟩
       · cases ez
     · cases ez
       obtain ⟨w, rfl, d⟩ := l.one
       obtain ⟨_, _, rfl, h1, _, l1⟩ := d.list_inv
       exact call_tuple_of pins s σ H _ us Q I r ⟨_, _, rfl, .inl ⟨.inl (.inl h1.2), fun p hp => q _ _ (Ext.new hp) (m.new hp) (.newT m.has hp l1)⟩⟩
     · cases ez
       obtain ⟨w, rfl, d⟩ := l.one
       obtain ⟨_, _, rfl, h1, _, l1⟩ := id d.tup_inv
       exact call_tuple_of pins s σ H _ us Q I r ⟨_, _, rfl, .inr ⟨by rw [hK]; exact h1.imp (fun z => .inl z.2) And.left, now _ d⟩⟩
     · cases ez
       obtain ⟨w, rfl, d⟩ := l.one
       obtain ⟨_, _, rfl, h1, _, l1⟩ := d.list_inv
       exact call_list_of pins s σ H _ us Q I r ⟨_, _, rfl, .inl (.inl (.inl h1.2)), fun p hp => q _ _ (Ext.new hp) (m.new hp) (.newL m.has hp l1)⟩
     · cases ez
       obtain ⟨w, rfl, d⟩ := l.one
       obtain ⟨_, _, rfl, h1, _, l1⟩ := id d.tup_inv
       exact call_list_of pins s σ H _ us Q I r ⟨_, _, rfl, .inr (by rw [hK]; exact h1.imp (fun z => .inl z.2) And.left), fun p hp => q _ _ (Ext.new hp) (m.new hp) (.newL m.has hp l1)⟩
     · obtain ⟨w, rfl, d⟩ := l.one
       obtain ⟨_, _, rfl, h1, _, l1⟩ := d.list_inv
       obtain ⟨ns, q3, e3⟩ := Option.map_eq_some_iff.mp (show Option.map (fun ns => PyData.int ns.sum) (intsOf _) = some z from ez)
       subst e3
       obtain ⟨e1, e2⟩ := l1.ofInts q3
       subst e1
       exact (match hc with | .inl h => cr_sum h | .inr h => Hh.cr_sumH h.1) pins s σ H _ us Q I r ⟨_, ns, rfl, .inl (.inl h1.2), now _ (.int _)⟩
     · obtain ⟨w, rfl, d⟩ := l.one
       obtain ⟨_, _, rfl, h1, _, l1⟩ := d.list_inv
       obtain ⟨m1, e4, e3⟩ := Option.map_eq_some_iff.mp (show Option.map PyData.int ((intsOf _).bind maxI) = some z from ez)
       obtain ⟨ns, q3, e5⟩ := Option.bind_eq_some_iff.mp e4
       subst e3
       obtain ⟨e1, e2⟩ := l1.ofInts q3
       subst e1
       cases ns with
       | nil => cases e5
       | cons x0 r0 =>
         cases e5
         exact cr_max (hc.resolve_right (fun z => nomatch z.2)) pins s σ H _ us Q I r ⟨_, x0 :: r0, rfl, .inl (.inl h1.2), Nat.succ_pos _, fun m0 h3 h4 => by
           rw [max_is h3 h4] at now
           exact now _ (.int _)⟩
     · obtain ⟨w, rfl, d⟩ := l.one
       obtain ⟨_, _, rfl, h1, _, l1⟩ := d.list_inv
       obtain ⟨m1, e4, e3⟩ := Option.map_eq_some_iff.mp (show Option.map PyData.int ((intsOf _).bind minI) = some z from ez)
       obtain ⟨ns, q3, e5⟩ := Option.bind_eq_some_iff.mp e4
       subst e3
       obtain ⟨e1, e2⟩ := l1.ofInts q3
       subst e1
       cases ns with
       | nil => cases e5
       | cons x0 r0 =>
         cases e5
         exact cr_min (hc.resolve_right (fun z => nomatch z.2)) pins s σ H _ us Q I r ⟨_, x0 :: r0, rfl, .inl (.inl h1.2), Nat.succ_pos _, fun m0 h3 h4 => by
           rw [min_is h3 h4] at now
           exact now _ (.int _)⟩
     · cases ez
       obtain ⟨w1, w2, rfl, d, d2⟩ := l.two
       cases d
       cases d2
       exact call_max2 (hc.resolve_right (fun z => nomatch z.2)) pins s σ H _ us Q I r ⟨_, _, rfl, now _ (.int _)⟩
     · cases ez
       obtain ⟨w1, w2, rfl, d, d2⟩ := l.two
       cases d
       cases d2
       exact call_min2 (hc.resolve_right (fun z => nomatch z.2)) pins s σ H _ us Q I r ⟨_, _, rfl, now _ (.int _)⟩
     · cases ez
       obtain ⟨w, rfl, d⟩ := l.one
       cases d
       exact call_abs pins s σ H _ us Q I r ⟨_, rfl, now _ (.int _)⟩
     · cases ez
       obtain ⟨w, rfl, d⟩ := l.one
       cases d
       exact call_int1 pins s σ H _ us Q I r (.inl ⟨_, rfl, now _ (.int _)⟩)
     · cases ez
       obtain ⟨w, rfl, d⟩ := l.one
       cases d
       exact call_int1 pins s σ H _ us Q I r (.inr ⟨_, rfl, now _ (.int _)⟩)
     · split at ez
       · rename_i hl
         obtain ⟨w, rfl, d⟩ := l.one
         cases d
         obtain ⟨i, q3, e3⟩ := Option.map_eq_some_iff.mp ez
         subst e3
         exact call_int_str pins s σ H _ us Q I r ⟨_, i, rfl, q3, hl, now _ (.int _)⟩
       · cases ez
     · split at ez
       · rename_i hl
         cases ez
         obtain ⟨w, rfl, d⟩ := l.one
         cases d
         exact call_str_int pins s σ H _ us Q I r ⟨_, rfl, hl, now _ (.str _)⟩
       · cases ez
     · cases ez
       obtain ⟨w, rfl, d⟩ := l.one
       cases d
       exact SkE.call_str_str pins s σ H _ us Q I r ⟨_, rfl, now _ (.str _)⟩
     · cases ez
       obtain ⟨w, rfl, d⟩ := l.one
       cases d with
       | er0 h1 h2 h3 => exact call_str_err hu pins s σ H _ us Q I r ⟨_, _, _, _, rfl, by rw [hK]; exact h3.2, h1.2, h2.2, now _ (.str _)⟩
     · cases ez
       obtain ⟨w, rfl, d⟩ := l.one
       cases d
       exact call_str_bl pins s σ H _ us Q I r ⟨_, rfl, now _ (.str _)⟩
     · cases ez
       obtain ⟨w, rfl, d⟩ := l.one
       cases d
       exact call_bool1 pins s σ H _ us Q I r (.inr ⟨_, rfl, now _ (.bl _)⟩)
     · cases ez
       obtain ⟨w, rfl, d⟩ := l.one
       cases d
       exact call_bool1 pins s σ H _ us Q I r (.inl ⟨_, rfl, now _ (.bl _)⟩)
     · obtain ⟨w, rfl, d⟩ := l.one
       obtain ⟨_, _, rfl, h1, _, l1⟩ := d.list_inv
       split at ez
       · rename_i ns q3
         cases ez
         obtain ⟨e1, e2⟩ := l1.ofInts q3
         subst e1
         exact cr_sortedI pins s σ H _ us Q I r ⟨_, ns, rfl, .inl (.inl h1.2), fun ns' p hp hr hn => by
           have e3 : sortI ns = ns' := rise_eq ((sortI_perm ns).trans hp.symm) (sortI_rise ns) hr
           rw [e3] at q
           exact q _ _ (Ext.new hn) (m.new hn) (.newL m.has hn (DenL.ints ns'))⟩
       · split at ez
         · rename_i ss q4
           split at ez
           · rename_i hl
             cases ez
             obtain ⟨e1, e2⟩ := l1.ofStrs q4
             subst e1
             exact cr_sortedS pins s σ H _ us Q I r ⟨_, ss, rfl, .inl (.inl h1.2), hl, fun ns' p hp hr hn => by
               have e3 : sortS ss = ns' := riseS_eq ((sortS_perm ss).trans hp.symm) (sortS_rise ss) (riseS_of hr)
               rw [e3] at q
               exact q _ _ (Ext.new hn) (m.new hn) (.newL m.has hn (DenL.strs ns'))⟩
           · cases ez
         · split at ez
           · rename_i nss q5
             split at ez
             · rename_i hl
               cases ez
               obtain ⟨g1, g2, g3⟩ := sort_data l1 q5 (sort_cond hl).2
               exact cr_sortV (D := 60) (B := 1048576) (by decide) pins s σ H _ us Q I r ⟨_, _, rfl, .inl (.inl h1.2), by rw [sort_len l1 q5]; exact (sort_cond hl).1, hK ▸ g1, hK ▸ g2, fun ys p hp pw hn => q _ _ (Ext.new hn) (m.new hn) (.newL m.has hn (g3 ys hp (hK ▸ pw)))⟩
             · cases ez
           · cases ez
     · split at ez
       · rename_i hl
         cases ez
         obtain ⟨w0, rfl, h1⟩ := l.one
         cases h1
         exact cr_chars (hc.resolve_right fun z => nomatch z.2) pins s σ H _ us Q I r ⟨_, rfl, hl, fun p hn => q _ _ (Ext.new hn) (m.new hn) (.newL m.has hn (DenL.signs _))⟩
       · cases ez
     · split at ez
       · rename_i hl
         cases ez
         obtain ⟨w0, rfl, h1⟩ := l.one
         cases h1
         exact cr_sortedC (hc.resolve_right fun z => nomatch z.2) pins s σ H _ us Q I r ⟨_, rfl, hl, fun ns' p hp hr hn => by
           have e3 := riseS_eq ((sortS_perm _).trans hp.symm) (sortS_rise _) (riseS_of hr)
           rw [e3] at q
           exact q _ _ (Ext.new hn) (m.new hn) (.newL m.has hn (DenL.strs ns'))⟩
       · cases ez
     · cases ez
end
end Zt
namespace Zt
open PySem PySem.Spec PyProof.Rows L2
structure CC where
 N : List Str
 sc : Scope
 all : Bool
 cl : Bool
 lam : Bool
 fn : Str → Bool
structure Stat where
 nm : List Str
 gn : List Str
 cn : List Str
 pl : List Bool
 fl : List (Option Str)
def isGlob (C : CC) (x : Str) : Bool := decide (C.sc.names.lookup x = some .globalImplicit)
def isVis (C : CC) (x : Str) : Bool := match C.sc.names.lookup x with
 | some .local | some .cell | some .free => true
 | _ => false
def isLoc (C : CC) (x : Str) : Bool := match C.sc.names.lookup x with
 | some .local => true
 | some .cell => C.fn x
 | _ => false
def plainName (x : Str) : Bool := !(x == ("__debug__" : Str)) && !(x == ("__classdict__" : Str)) && !(x == ("__name__" : Str))
def Bi.n : Bi → Str
 | .len => "len"
 | .tuple => "tuple"
 | .list => "list"
 | .sum => "sum"
 | .max => "max"
 | .min => "min"
 | .abs => "abs"
 | .int => "int"
 | .str => "str"
 | .bool => "bool"
 | .sorted => "sorted"
 | .chars => "list"
 | .keys => "list"
 | .sortedC => "sorted"
def Ty.n : Ty → Str
 | .int => "int"
 | .str => "str"
 | .bool => "bool"
 | .tuple => "tuple"
 | .list => "list"
def Ty.s : Ty → String
 | .int => "int"
 | .str => "str"
 | .bool => "bool"
 | .tuple => "tuple"
 | .list => "list"
def Mt.ok : Mt → Nat → Bool
 | .lower, 0 | .upper, 0 | .swapcase, 0 | .pop, 0 => true
 | .split, 1 | .join, 1 | .count, 1 | .append, 1 => true
 | _, _ => false
def Mt.n : Mt → Str
 | .lower => "lower"
 | .upper => "upper"
 | .swapcase => "swapcase"
 | .split => "split"
 | .join => "join"
 | .count => "count"
 | .index => "index"
 | .append => "append"
 | .pop => "pop"
def blts : List Str := ["len", "tuple", "list", "sum", "max", "min", "abs", "int", "str", "bool", "sorted", "isinstance", "range", "zip", "enumerate", "ValueError", "set"]
def plainRecv : Expr → Bool
 | .Call (.Name _ _) [] [] _ => false
 | _ => true
def notStar : Expr → Bool
 | .Starred _ _ => false
 | _ => true
def notSet : Expr → Bool
 | .Set _ _ _ => false
 | _ => true
def plainTest : Expr → Bool
 | .UnaryOp .Not _ _ => false
 | .BoolOp _ _ _ => false
 | .IfExp _ _ _ _ => false
 | .Compare _ _ _ _ => false
 | _ => true
def notSlice : Expr → Bool
 | .Slice _ _ _ _ => false
 | _ => true
def notTup : Expr → Bool
 | .Tuple _ _ _ => false
 | _ => true
def chkTg (C : CC) : Tg → Expr → Bool
 | .nm i, .Name x _ => decide (C.N[i]? = some x) && isLoc C x
 | .tp is, .Tuple es _ _ => decide (is.length = es.length) && (is.zip es).all fun p => match p.2 with
   | .Name x _ => decide (C.N[p.1]? = some x) && isLoc C x
   | _ => false
 | _, _ => false
def blkCC (C : CC) (scope : Scope) : CC := ⟨C.N, relS scope C.sc, false, false, false, fun x => scope.names.lookup x == some .cell⟩
def parsB (N : List Str) (ps : List Nat) (p : Arguments) : Bool := p.posonlyargs.isEmpty && p.vararg.isNone && p.kwonlyargs.isEmpty && p.kw_defaults.isEmpty && p.kwarg.isNone && p.defaults.isEmpty && match ps, p.args with
 | [], [] => true
 | [i], [⟨x, none, _⟩] => decide (N[i]? = some x)
 | _, _ => false
def lamSB2 (sc scope : Scope) (xs : List Str) : Bool :=
 decide (scope.kind = .function) && !scope.isCoroutine && !scope.isGenerator && (scope.names.all fun y => (!decide (y.2 = .local) || xs.contains y.1) && !decide (y.2 = .cell) && (!decide (y.2 = .free) || decide (sc.names.lookup y.1 = some .cell) || decide (sc.names.lookup y.1 = some .free))) && xs.all fun x => decide (scope.names.lookup x = some .local)
def chkKs : List Str → List (Option Expr) → Bool
 | [], [] => true
 | s :: ss, some (.Constant (.str t) _ _) :: r => decide (s = t) && chkKs ss r
 | _, _ => false
def chkFns (G : Stat) (C : CC) : List Nat → List Expr → Bool
 | [], [] => true
 | i :: is, .Name y _ :: ys => decide (G.nm[i]? = some y) && isGlob C y && plainName y && chkFns G C is ys
 | _, _ => false
def isSub : Expr → Bool
 | .Subscript .. => true
 | _ => false
mutual
def chkE (G : Stat) (C : CC) : E → Expr → Bool
 | .v i, x => match x with
   | .Name x _ => decide (C.N[i]? = some x) && isVis C x && plainName x
   | _ => false
 | .g i, x => match x with
   | .Name x _ => decide (G.gn[i]? = some x) && isGlob C x && plainName x
   | _ => false
 | .kn, x => match x with
   | .Constant .none _ _ => true
   | _ => false
 | .kb b, x => match x with
   | .Constant (.bool c) _ _ => decide (b = c)
   | _ => false
 | .ki i, x => match x with
   | .Constant (.int j) _ _ => decide (i = j)
   | _ => false
 | .ks s, x => match x with
   | .Constant (.str t) _ _ => decide (s = t)
   | _ => false
 | .neg a, x => match x with
   | .UnaryOp .USub y _ => chkE G C a y
   | _ => false
 | .bin op a b, x => match x with
   | .BinOp l o r _ => decide (op.x = o) && chkE G C a l && chkE G C b r
   | _ => false
 | .never, _ => true
 | .madd a b, x => match x with
   | .BinOp l .Add r _ => chkE G C a l && chkE G C b r
   | _ => false
 | .cmp op a b, x => match x with
   | .Compare l [o] [r] _ => decide (op.x = o) && notSet r && chkE G C a l && chkE G C b r
   | _ => false
 | .chain o1 o2 a b c, x => match x with
   | .Compare l [o, o'] [r, r'] _ => decide (o1.x = o) && decide (o2.x = o') && notSet r' && chkE G C a l && chkE G C b r && chkE G C c r'
   | _ => false
 | .and es, x => match x with
   | .BoolOp .And ys _ => chkEs G C es ys
   | _ => false
 | .or es, x => match x with
   | .BoolOp .Or ys _ => chkEs G C es ys
   | _ => false
 | .not a, x => match x with
   | .UnaryOp .Not y _ => chkE G C a y
   | _ => false
 | .ite c a b, x => match x with
   | .IfExp t y z _ => chkT G C c t && chkE G C a y && chkE G C b z
   | _ => false
 | .tup es, x => match x with
   | .Tuple ys _ _ => chkEs G C es ys && ys.all notStar && decide (ys.length ≤ slen)
   | _ => false
 | .lst es, x => match x with
   | .List ys _ => chkEs G C es ys && ys.all notStar && decide (ys.length ≤ slen)
   | _ => false
 | .mls es, x => match x with
   | .List ys _ => chkEs G C es ys && ys.all notStar && decide (ys.length ≤ slen)
   | _ => false
 | .mdc ks es, x => match x with
   | .Dict ys zs _ => decide (ys.length = ks.length) && decide (ys.length = zs.length) && decide (1 ≤ ks.length) && decide (ks.length ≤ 15) && decide ks.Nodup && chkKs ks ys && chkEs G C es zs
   | _ => false
 | .mdt, x => match x with
   | .Dict [] [] _ => true
   | _ => false
 | .call f es, x => match x with
   | .Call (.Name y _) ys [] _ => decide (G.nm[f]? = some y) && isGlob C y && plainName y && chkEs G C es ys && ys.all notStar
   | _ => false
 | .callP f es, x => match x with
   | .Call (.Name y _) ys [] _ => decide (G.nm[f]? = some y) && isGlob C y && plainName y && chkEs G C es ys && ys.all notStar
   | _ => false
 | .bi b es, x => match x with
   | .Call (.Name y _) (z :: ys) [] _ => decide (b.n = y) && isGlob C y && chkEs G C es (z :: ys) && (z :: ys).all notStar
   | _ => false
 | .isi a t, x => match x with
   | .Call (.Name y _) [z, .Name u _] [] _ => decide (y = ("isinstance" : Str)) && isGlob C y && decide (t.n = u) && isGlob C u && chkE G C a z && notStar z
   | _ => false
 | .isx i c, x => match x with
   | .Call (.Name y _) [.Name u _, .Name d _] [] _ => C.cl && decide (y = ("isinstance" : Str)) && isGlob C y && decide (C.N[i]? = some u) && isVis C u && plainName u && decide (G.cn[c]? = some d) && isGlob C d && plainName d
   | _ => false
 | .isv i, x => match x with
   | .Call (.Name y _) [.Name u _, .Name d _] [] _ => C.cl && decide (y = ("isinstance" : Str)) && isGlob C y && decide (C.N[i]? = some u) && isVis C u && plainName u && decide (d = ("ValueError" : Str)) && isGlob C d
   | _ => false
 | .mth m o es, x => match x with
   | .Call (.Attribute y n ap) zs [] p => decide (m.n = n) && m.ok zs.length && plainRecv y && (ap.endLine == p.line) && chkE G C o y && chkEs G C es zs && zs.all notStar && decide (zs.length < 20)
   | _ => false
 | .gidx i e, x => match x with
   | .Call (.Attribute (.Name y _) n ap) [z] [] p => decide (n = ("index" : Str)) && decide (G.gn[i]? = some y) && isGlob C y && plainName y && (ap.endLine == p.line) && chkE G C e z && notStar z
   | _ => false
 | .sub o i, x => match x with
   | .Subscript y z _ => notSlice z && chkE G C o y && chkE G C i z
   | _ => false
 | .dget o i w, x => match x with
   | .Call (.Attribute y n ap) [z, u] [] p => decide (n = ("get" : Str)) && plainRecv y && (ap.endLine == p.line) && chkE G C o y && chkE G C i z && chkE G C w u && notStar z && notStar u
   | _ => false
 | .slc o lo hi, x => match x with
   | .Subscript y (.Slice l h none _) _ => chkE G C o y && chkO G C lo l && chkO G C hi h
   | _ => false
 | .rev o, x => match x with
   | .Subscript y (.Slice none none (some (.UnaryOp .USub (.Constant (.int 1) _ _) _)) _) _ => chkE G C o y
   | _ => false
 | .lc elt tg it cond own, x => match x with
   | .ListComp y [⟨t, i, cs, 0⟩] scope _ => chkI G C it t i && notSet i && blkC C.N C.sc scope (own.filterMap fun j => (C.N[j]?).map fun n => (n, j)) && own.all (fun j => decide (j < C.N.length)) &&
       (match tg with
         | .nm j => own.contains j
         | .tp js => js.all fun j => own.contains j) &&
       chkTg (blkCC C scope) tg t && chkC G (blkCC C scope) cond cs && chkE G (blkCC C scope) elt y
   | _ => false
 | .lcR elt tg it cond own, x => match x with
   | .ListComp y [⟨t, i, cs, 0⟩] scope _ => chkE G C it i && notSet i && blkC C.N C.sc scope (own.filterMap fun j => (C.N[j]?).map fun n => (n, j)) && own.all (fun j => decide (j < C.N.length)) &&
       (match tg with
         | .nm j => own.contains j
         | .tp js => js.all fun j => own.contains j) &&
       chkTg (blkCC C scope) tg t && chkC G (blkCC C scope) cond cs && chkE G (blkCC C scope) elt y
   | _ => false
 | .xat i f, x => match x with
   | .Attribute (.Name y _) z _ => C.cl && decide (C.N[i]? = some y) && isVis C y && plainName y && decide (f = z) && decide (some f ∈ G.fl)
   | _ => false
 | .mkx c e, x => match x with
   | .Call (.Name y _) [z] [] _ => decide (G.pl[c]? = some true) && decide (G.cn[c]? = some y) && isGlob C y && plainName y && notStar z && chkE G C e z
   | _ => false
 | .mki c f e, x => match x with
   | .Call (.Name y _) [z] [] _ => decide (some (some f) = G.fl[c]?) && decide (G.cn[c]? = some y) && isGlob C y && plainName y && notStar z && chkE G C e z
   | _ => false
 | .atx e f, x => match x with
   | .Attribute y z _ => isSub y && decide (f = z) && decide (some f ∈ G.fl) && chkE G C e y
   | _ => false
 | .clo i es, x => match x with
   | .Call (.Name y _) ys [] _ => C.cl && decide (C.N[i]? = some y) && isVis C y && plainName y && chkEs G C es ys && ys.all notStar
   | _ => false
 | .callL f es ps b, x => match x with
   | .Call (.Name y _) [.Lambda params body scope _] [] _ => C.lam && chkEs G C es [] && decide (G.nm[f]? = some y) && isGlob C y && plainName y && parsB C.N ps params && lamSB2 C.sc scope (params.args.map (·.arg)) && chkE G ⟨C.N, scope, false, false, false, fun _ => false⟩ b body
   | .Call (.Name y _) [z, .Lambda params body scope _] [] _ => C.lam && chkEs G C es [z] && decide (G.nm[f]? = some y) && isGlob C y && plainName y && parsB C.N ps params && lamSB2 C.sc scope (params.args.map (·.arg)) && chkE G ⟨C.N, scope, false, false, false, fun _ => false⟩ b body && notStar z
   | _ => false
 | .callV i fs es, x => match x with
   | .Call (.Name y _) (z :: ys) [] _ => decide (C.N[i]? = some y) && isVis C y && plainName y && fs.all (fun f => (G.nm[f]?).isSome) && chkEs G C es (z :: ys) && (z :: ys).all notStar
   | _ => false
 | .sset a, x => match x with
   | .Call (.Name y _) [.Call (.Name u _) [z] [] _] [] _ => decide (y = ("sorted" : Str)) && isGlob C y && decide (u = ("set" : Str)) && isGlob C u && chkE G C a z && notStar z
   | _ => false
 | .callW f i es, x => match x with
   | .Call (.Name y _) (.Name u _ :: ys) [] _ => decide (G.nm[f]? = some y) && isGlob C y && plainName y && decide (C.N[i]? = some u) && isVis C u && plainName u && chkEs G C es ys && ys.all notStar
   | _ => false
 | .callX f i, x => match x with
   | .Call (.Name y _) [.Name u _] [] _ => C.cl && decide (G.nm[f]? = some y) && isGlob C y && plainName y && decide (C.N[i]? = some u) && isVis C u && plainName u
   | _ => false
 | .sln i, x => match x with
   | .Call (.Name y _) [.Name u _] [] _ => decide (y = ("len" : Str)) && isGlob C y && decide (C.N[i]? = some u) && isVis C u && plainName u
   | _ => false
 | .six i e, x => match x with
   | .Subscript (.Name u _) z _ => decide (C.N[i]? = some u) && isVis C u && plainName u && notSlice z && chkE G C e z
   | _ => false
def chkEs (G : Stat) (C : CC) : Es → List Expr → Bool
 | .nil, ys => match ys with
   | [] => true
   | _ => false
 | .cons e r, ys => match ys with
   | y :: ys => chkE G C e y && chkEs G C r ys
   | _ => false
def chkO (G : Stat) (C : CC) : Eo → Option Expr → Bool
 | .no, y => match y with
   | none => true
   | _ => false
 | .so e, y => match y with
   | some y => chkE G C e y
   | _ => false
def chkT (G : Stat) (C : CC) : T → Expr → Bool
 | .and ts, x => match x with
   | .BoolOp .And ys _ => chkTs G C ts ys
   | _ => false
 | .or ts, x => match x with
   | .BoolOp .Or ys _ => chkTs G C ts ys
   | _ => false
 | .not t, x => match x with
   | .UnaryOp .Not y _ => chkT G C t y
   | _ => false
 | .cmp op a b, x => match x with
   | .Compare l [o] [r] _ => decide (op.x = o) && notSet r && chkE G C a l && chkE G C b r
   | _ => false
 | .chain o1 o2 a b c, x => match x with
   | .Compare l [o, o'] [r, r'] _ => decide (o1.x = o) && decide (o2.x = o') && notSet r' && chkE G C a l && chkE G C b r && chkE G C c r'
   | _ => false
 | .e e, x => plainTest x && chkE G C e x
def chkTs (G : Stat) (C : CC) : Ts → List Expr → Bool
 | .nil, _ => false
 | .cons t .nil, ys => match ys with
   | [y] => chkT G C t y
   | _ => false
 | .cons t r, ys => match ys with
   | y :: ys => chkT G C t y && chkTs G C r ys
   | _ => false
def chkC (G : Stat) (C : CC) : To → List Expr → Bool
 | .no, ys => match ys with
   | [] => true
   | _ => false
 | .so t, ys => match ys with
   | [y] => chkT G C t y
   | _ => false
def chkI (G : Stat) (C : CC) : Iz → Expr → Expr → Bool
 | .it e, _, x => chkE G C e x
 | .rng1 e, _, x => match x with
   | .Call (.Name y _) [z] [] _ => decide (y = ("range" : Str)) && isGlob C y && chkE G C e z && notStar z
   | _ => false
 | .rng2 a b, _, x => match x with
   | .Call (.Name y _) [z, u] [] _ => decide (y = ("range" : Str)) && isGlob C y && chkE G C a z && chkE G C b u && notStar z && notStar u
   | _ => false
 | .zip a b, t, x => match x with
   | .Call (.Name y _) [z, u] [] _ => !(notTup t) && decide (y = ("zip" : Str)) && isGlob C y && chkE G C a z && chkE G C b u && notStar z && notStar u
   | _ => false
 | .enum a, t, x => match x with
   | .Call (.Name y _) [z] [] _ => !(notTup t) && decide (y = ("enumerate" : Str)) && isGlob C y && chkE G C a z && notStar z
   | _ => false
 | .fns is, _, x => match x with
   | .Tuple ys _ _ => chkFns G C is ys && decide (is.length ≤ 100)
   | _ => false
end
def nameOf : Expr → Str
 | .Name x _ => x
 | _ => ""
def parName (C : CC) (line : Nat) (p : Nat × Expr) : Bool := match p.2 with
 | .Name x q => decide (C.N[p.1]? = some x) && decide (C.sc.names.lookup x = some .local) && (q.line == line)
 | _ => false
def parOk (C : CC) (is : List Nat) (ts vs : List Expr) : Bool :=
 (ts.length == 2 || ts.length == 3) && (vs.length == ts.length) && (is.length == ts.length) && vs.all notStar && !(vs.all (foldedForSure 8)) && !(vs.all (constantsAlone 8)) &&
 (is.zip ts).all (parName C ((ts.head?.map (·.pos.line)).getD 0)) && ((ts.map nameOf).eraseDups.length == (ts.map nameOf).length)
def hasCell (C : CC) (ts : List Expr) : Bool := ts.any fun t => match t with
 | .Name y _ => decide (C.sc.names.lookup y = some .cell)
 | _ => false
def chkL (C : CC) (y : Str) (py : Pos) : E → Expr → Bool
 | .lc _ _ _ _ _, .ListComp _ [⟨_, _, _, 0⟩] scope pos => decide (C.sc.names.lookup y = some .local) && decide (C.sc.kind = .function) && (py.line == pos.line) && !(scope.names.any fun p => p.1 == y && (p.2 == .local || p.2 == .cell))
 | .lcR _ _ _ _ _, .ListComp _ [⟨_, _, _, 0⟩] scope pos => decide (C.sc.names.lookup y = some .local) && decide (C.sc.kind = .function) && (py.line == pos.line) && !(scope.names.any fun p => p.1 == y && (p.2 == .local || p.2 == .cell))
 | _, _ => false
def chkS0 (x : Expr) : Bool := match x with
 | .ListComp _ _ _ _ => false
 | .SetComp _ _ _ _ => false
 | .DictComp _ _ _ _ _ => false
 | _ => true
mutual
def chkS (G : Stat) (C : CC) : S → Stmt → Bool
 | .asg t e, x => match x with
   | .Assign [y] z _ => chkTg C t y && chkE G C e z && chkS0 z && (notTup y || notTup z)
   | _ => false
 | .never, _ => true
 | .par is es, x => match x with
   | .Assign [.Tuple ts _ _] (.Tuple vs _ _) _ => chkEs G C es vs && parOk C is ts vs
   | _ => false
 | .parN is es, x => match x with
   | .Assign [.Tuple ts _ _] (.Tuple vs _ _) _ => chkEs G C es vs && vs.all notStar && (decide (4 ≤ ts.length) || vs.all (foldedForSure 8) || hasCell C ts) && decide (ts.length ≤ 20) && decide (is.length = ts.length) && (is.zip ts).all fun p => match p.2 with
     | .Name y _ => decide (C.N[p.1]? = some y) && isLoc C y
     | _ => false
   | _ => false
 | .setI o i e, x => match x with
   | .Assign [.Subscript y z _] u _ => chkE G C o y && chkE G C i z && notSlice z && chkE G C e u && chkS0 u
   | _ => false
 | .ex e, x => match x with
   | .Expr y _ => chkE G C e y && chkS0 y
   | _ => false
 | .ret e, x => match x with
   | .Return (some y) _ => chkE G C e y
   | .Return none _ => match e with
     | .kn => true
     | _ => false
   | _ => false
 | .ifs c a b, x => match x with
   | .If t y z _ => chkT G C c t && chkSs G C a y && chkSs G C b z
   | _ => false
 | .for t it body, x => match x with
   | .For y z b [] _ => chkI G C it y z && notSet z && chkTg C t y && chkSs G C body b
   | _ => false
 | .forR t e body, x => match x with
   | .For y z b [] _ => chkI G C (.it e) y z && chkE G C e z && notSet z && chkTg C t y && chkSs G C body b
   | _ => false
 | .forD t i body, x => match x with
   | .For y (.Name v _) b [] _ => decide (C.N[i]? = some v) && isVis C v && plainName v && chkTg C t y && chkSs G C body b
   | _ => false
 | .asg2 i elt tg it cond tg1 e1 cond1 own own1, x => match x with
   | .Assign [.Name y py] (.ListComp z [⟨t, u, cs, 0⟩, ⟨t1, .Call (.Name rn _) [u1] [] _, cs1, 0⟩] scope pos) _ => decide (C.N[i]? = some y) && chkI G C it t u && notSet u && blkC C.N C.sc scope (own.filterMap fun j => (C.N[j]?).map fun n => (n, j)) && own.all (fun j => decide (j < C.N.length)) &&
       tg.ids.all (fun j => own.contains j) && tg1.ids.all (fun j => own1.contains j) && own1.all (fun j => own.contains j) &&
       chkTg (blkCC C scope) tg t && chkC G (blkCC C scope) cond cs && decide (rn = ("range" : Str)) && isGlob (blkCC C scope) rn && chkE G (blkCC C scope) e1 u1 && notStar u1 && chkTg (blkCC C scope) tg1 t1 && chkC G (blkCC C scope) cond1 cs1 && chkE G (blkCC C scope) elt z &&
       decide (C.sc.names.lookup y = some .local) && decide (C.sc.kind = .function) && (py.line == pos.line) && !(scope.names.any fun p => p.1 == y && (p.2 == .local || p.2 == .cell))
   | _ => false
 | .asgL i e, x => match x with
   | .Assign [.Name y py] z pos => decide (C.N[i]? = some y) && chkE G C e z && chkL C y py e z
   | _ => false
 | .while c body, x => match x with
   | .While t b [] _ => chkT G C c t && chkSs G C body b
   | _ => false
 | .raise c, x => match x with
   | .Raise (some (.Call (.Name y _) [.Constant (.str _) _ _] [] _)) none _ => decide (G.pl[c]? = some true) && decide (G.cn[c]? = some y) && isGlob C y && plainName y
   | _ => false
 | .raiseI c f e, x => match x with
   | .Raise (some (.Call (.Name y _) [z] [] _)) none _ => decide (some (some f) = G.fl[c]?) && decide (G.cn[c]? = some y) && isGlob C y && plainName y && notStar z && chkE G C e z
   | _ => false
 | .try body c nm suite, x => match x with
   | .Try b [.ExceptHandler (some (.Name y _)) n (s0 :: ss) _] [] [] _ => C.all && decide (G.cn[c]? = some y) && isGlob C y && plainName y && chkSs G C body b && chkSs G C suite (s0 :: ss) && (match nm, n with
     | none, none => true
     | some i, some nn => decide (C.N[i]? = some nn) && decide (C.sc.names.lookup nn = some .local)
     | _, _ => false)
   | _ => false
 | .pass, x => match x with
   | .Pass _ => true
   | _ => false
def chkSs (G : Stat) (C : CC) : Ss → List Stmt → Bool
 | .nil, ys => match ys with
   | [] => true
   | _ => false
 | .cons s r, ys => match ys with
   | y :: ys => chkS G C s y && chkSs G C r ys
   | _ => false
end
end Zt
namespace Zt
open PySem PySem.Spec PyProof.Rows L2
abbrev Wd.cfg (W : Wd) (k : Nat) (h : Bool) : Cfg := lev W.T W.sub W.gv W.wf k h
def EndF (W : Wd) (ι : Io) (H : Hp) (Q : VK) (E : XK) : R Z → Prop
 | .ok z M => ∀ ι' v H', Ext ι H ι' H' → MI W ι' H' M → DenZ W.K ι' H' v z → Q v H'
 | .ex e M => ∀ ι' dx H', Ext ι H ι' H' → MI W ι' H' M → ExF W.K ι' H' dx e.fs → E (W.cv e.c) dx H'
 | .bad => False
def spF (W : Wd) (k : Nat) (h : Bool) (i : Nat) : Sp := fun vs H Q E => vs.length = (W.ps i).length ∧ ∃ ι M zs, MI W ι H M ∧ DenZL W.K ι H vs zs ∧ EndF W ι H Q E ((W.cfg k h).fn h i zs M)
def spW (W : Wd) (k : Nat) (h : Bool) (f : Nat) : Sp := fun vs H Q E => vs.length = (W.ps f).length ∧ ∃ ι M v vs' ns zs, vs = v :: vs' ∧ MI W ι H M ∧ SlD W.K Sc.none ι H (some (some v)) (.scr ns) ∧ DenZL W.K ι H vs' zs ∧ EndF W ι H Q E ((W.cfg k h).fnW h f (.scr ns) zs M)
def spInit (C : Addr) (f : Str) : Sp := fun vs H Q _ => ∃ (a : Addr) (v : V), vs = [.ref a, v] ∧ H a = some (exo a C none) ∧ ∀ dx, H dx = none → dx ≠ a → Q .non (upd (upd H dx (exd dx [(f, v)])) a (exo a C (some dx)))
structure WOk (W : Wd) (G : Stat) : Prop where
 exm : ∀ (c d : Nat) (y : Str), G.cn[d]? = some y → PySem.W.exmOne W.K (W.cv c) (W.cv d) = some (W.sub c d)
 kit : ∀ (c d : Nat) (y : Str), G.cn[d]? = some y → PySem.W.kitOne W.K (W.cv c) (W.cv d) = some (W.sub c d)
 exc : ∀ c, ∃ C, W.cv c = .ref C ∧ ExcC W.K C
 nof : ∀ f ∈ G.fl, ∀ y, f = some y → ∀ c, ∃ C, W.cv c = .ref C ∧ PySem.W.findIn W.K (.ref C) y = some none
 own : ∀ (c : Nat) (f : Str), G.fl[c]? = some (some f) → ∃ (C fI : Addr) (fd : FuncData) (ps : List Str), W.cv c = .ref C ∧ OexC W.K C ∧ PySem.W.findIn W.K (.ref C) "__init__" = some (some (.ref fI)) ∧ PySem.W.typeIn W.K (.ref fI) = some (.type "function") ∧
   FnOk W.P W.w W.K W.mg W.base (L2N.CX W.P W.w) 1 fI fd ps (spInit C f) ∧ L2.Binds W.K fd ps []
 str : ∀ (c : Nat) (C : Addr), G.pl[c]? = some true → W.cv c = .ref C → PySem.W.findIn W.K (.ref C) "__str__" = some (some (.builtin "BaseException.__str__"))
 kitV : ∀ c, PySem.W.kitOne W.K (W.cv c) (.type "ValueError") = some (W.sub c 1000)
 tbu : ∀ p ∈ W.tb, ∀ q ∈ W.tb, p.1 = q.1 → p.2 = q.2
 blt : ∀ x ∈ blts, W.mg x = none
 glob : ∀ (i : Nat) (x : Str), G.nm[i]? = some x → W.mg x = some (.ref (W.fa i)) ∧ PySem.W.keepIn W.K (.ref (W.fa i)) = true ∧ L2.Binds W.K (W.fd i) (W.ps i) []
 np : ∀ (i : Nat) (x : Str) (d : Def), G.nm[i]? = some x → W.T[i]? = some d → d.np = (W.ps i).length
 cons : ∀ (i : Nat) (x : Str), G.gn[i]? = some x → ∃ u v d, W.mg x = some u ∧ RelV v u ∧ W.gv[i]? = some d ∧ (∀ ι H, Den W.K ι H v d) ∧ ∀ ds, d = .tuple ds → ∃ p o, v = .ref p ∧ W.K.lookup p = some o ∧ o.cls = .type "tuple" ∧ o.dict = none
 cls : ∀ (c : Nat) (x : Str), G.cn[c]? = some x → ∃ C, W.mg x = some (.ref C) ∧ W.cv c = .ref C ∧ PySem.W.keepIn W.K (.ref C) = true ∧ (G.pl[c]? = some true → PySem.W.excIn W.K C [.type "ValueError", .type "Exception", .type "BaseException", .type "object"] "ValueError.__new__" = true) ∧
   PySem.W.subIn W.K (.ref C) (.type "BaseException") = some true ∧ PySem.W.typeIn W.K (.ref C) = some (.type "type")
structure ErrAt (W : Wd) (A : Around) (a : Addr) (c : Nat) (dx : Option Addr) (oe : Obj) : Prop where
 hot : L2H.Hot1 A (a, oe)
 zc : Zc (W.cv c) dx oe
 fld : ∃ vs, oe.data = .fields vs
def XLat (W : Wd) (Sl : Sc) (k : Nat) (X : Cx) (wx : WX) : Prop :=
 ∀ (pins : List (Addr × Obj)) (s : Shared) (σ : St) (H : Hp), Inv X pins σ H s → ∀ (f : Addr) (ps : List Nat) (b : E) (σc : St) (ι : Io), Sl.CL f ps b σc ι H → PySem.W.FnAt f s.heap ∧
   ∀ (cap : List (Option Z)) (M : Mem) (us : List Value) (vs : List V) (zs : List Z) (Q : VK), CapOk W.K ι H σc cap → σc.length = cap.length → MI W ι H M → DenZL W.K ι H vs zs → Vals vs us → EndG W wx σ ι H (DenZ W.K) Q ((W.cfg k false).clo ps b cap zs M) →
     wpAny (model X.prog X.w) X.A (call (.ref f) us) (EP X pins σ Q) X.xe s
def XL (W : Wd) (Sl : Sc) (k : Nat) (A : Around) (outer : List PySem.Env) (s : Shared) (H : Hp) : Prop :=
 ∀ (N : List Str) (qual : Str) (scope : Scope) (f : Addr) (cdv : Value) (E : XK), Room k (A.deeper (envOfC qual scope s.heap.objs.size f cdv)) → ∀ (pn : List (Addr × Obj)) (xe : Value → Shared → Prop) (wx : WX),
   L2N.Takes ((cxOf (L2N.CX W.P W.w) W.P W.w W.K W.mg W.base N qual scope f cdv A outer s H E).tr pn xe) wx → XLat W Sl k ((cxOf (L2N.CX W.P W.w) W.P W.w W.K W.mg W.base N qual scope f cdv A outer s H E).tr pn xe) wx
structure Calls (W : Wd) (G : Stat) (k : Nat) : Prop where
 calm : ∀ (i : Nat) (x : Str), G.nm[i]? = some x → FnOk W.P W.w W.K W.mg W.base (L2N.CX W.P W.w) k (W.fa i) (W.fd i) (W.ps i) (spF W k false i)
 hot : ∀ (i : Nat) (x : Str), G.nm[i]? = some x → L2H.FnH W.P W.w W.K W.mg W.base (L2N.CX W.P W.w) k (W.fa i) (W.fd i) (W.ps i) (spF W k true i)
 calmW : ∀ (i : Nat) (x : Str), G.nm[i]? = some x → FnOk W.P W.w W.K W.mg W.base (L2N.CX W.P W.w) k (W.fa i) (W.fd i) (W.ps i) (spW W k false i)
 hotW : ∀ (i : Nat) (x : Str), G.nm[i]? = some x → L2H.FnH W.P W.w W.K W.mg W.base (L2N.CX W.P W.w) k (W.fa i) (W.fd i) (W.ps i) (spW W k true i)
 calmL : ∀ (i : Nat) (x : Str), G.nm[i]? = some x → ∀ (Sl : Sc) (A : Around) (outer : List PySem.Env) (s : Shared) (H : Hp) (f0 : Addr) (ps : List Nat) (b : E) (σc : St) (cap : List (Option Z)) (ι : Io) (M : Mem) (us : List Value) (vs : List V) (zs : List Z) (Q : VK) (E : XK), DenZL W.K ι H vs zs → Vals vs us → (∀ a c dx, ¬ Sl.XA a c dx) → Room k A → Env0 W.P W.w W.K W.mg W.base A outer s H →
   (∀ j, j + 1 = k → XL W Sl j A outer s H) → Sl.CL f0 ps b σc ι H → CapOk W.K ι H σc cap → σc.length = cap.length → MI W ι H M → EndF W ι H Q E ((W.cfg k false).fnL i zs ps b cap M) →
   codeAny (model W.P W.w) A (.call (.ref (W.fa i)) ⟨us ++ [.ref f0], []⟩) (CR (L2N.CX W.P W.w) outer W.P W.w H s Q E) s
 hotX : ∀ (i : Nat) (x : Str), G.nm[i]? = some x → ∀ (A : Around) (outer : List PySem.Env) (s : Shared) (H : Hp) (a : Addr) (c : Nat) (dx : Option Addr) (fs : List (Str × D)) (oe : Obj) (ι : Io) (M : Mem) (Q : VK) (E : XK), ErrAt W A a c dx oe → L2H.PinOk outer H s (a, oe) → L2H.RoomH k A → Env0 W.P W.w W.K W.mg W.base A outer s H →
   MI W ι H M → ExF W.K ι H dx fs → EndF W ι H Q E ((W.cfg k true).fnW true i (.exc ⟨c, fs⟩) [] M) → codeAny (model W.P W.w) A (.call (.ref (W.fa i)) ⟨[.ref a], []⟩) (CR (L2N.CX W.P W.w) outer W.P W.w H s Q E) s
structure GX (W : Wd) (G : Stat) (S : Sc) (k : Nat) (h : Bool) (cc : CC) (X : Cx) (wx : WX) : Prop where
 eP : X.prog = W.P
 eW : X.w = W.w
 eK : X.K = W.K
 eM : X.mg = W.mg
 eB : X.base = W.base
 eN : X.N = cc.N
 nd : X.N.Nodup
 eS : X.env.scope = cc.sc
 room : L2H.RoomH k X.A
 calm : h = false → X.calm = true ∧ Room k X.A
 hot : h = true → L2H.HotC X
 takes : L2N.Takes X wx
 pass : PassesOwn (model X.prog X.w) X.A X.env X.xe
 st : ∀ x, cc.fn x = true → X.fn x = true
 fr : cc.all = true → X.stack = X.env :: X.outer ∧ X.env.frame = some X.env.locals
 ok : WOk W G
 calls : ∀ j, j ≤ k → Calls W G j
 lam : cc.lam = true → ∃ c P, LamX.TabB X.base X.mg c P ∧ X.env.code = .ref c ∧ (P, X.env.qual ++ "<lambda>") ∈ W.tb
 xc : cc.cl = true → h = true → ∀ (f : Nat) (x : Str) (a : Addr) (c : Nat) (dx : Option Addr) (fs : List (Str × D)), G.nm[f]? = some x → S.XA a c dx → ∀ (pins : List (Addr × Obj)) (s : Shared) (σ : St) (H : Hp) (Q : VK) (ι : Io) (M : Mem), Inv X pins σ H s → MI W ι H M → ExF W.K ι H dx fs →
   EndG W wx σ ι H (DenZ W.K) Q ((W.cfg k true).fnW true f (.exc ⟨c, fs⟩) [] M) → wpAny (model X.prog X.w) X.A (call (.ref (W.fa f)) [.ref a]) (EP X pins σ Q) X.xe s
 xp : cc.cl = true → ∀ (a : Addr) (c : Nat) (dx : Option Addr), S.XA a c dx → ∃ oe, (a, oe) ∈ X.pn ∧ Zc (W.cv c) dx oe ∧ ∃ vs, oe.data = .fields vs
 nx : h = false → ∀ a c dx, ¬ S.XA a c dx
 xl : cc.cl = true → h = false → ∀ (pn : List (Addr × Obj)) (xe : Value → Shared → Prop) (wx' : WX), L2N.Takes (X.tr pn xe) wx' → XLat W S k (X.tr pn xe) wx'
section
variable {W : Wd} {G : Stat} {S : Sc} {k : Nat} {h : Bool} {cc : CC} {X : Cx} {wx : WX}
theorem GX.vis (g : GX W G S k h cc X wx) {x : Str} (hv : isVis cc x = true) : Vis X.env.scope x := by
 unfold Vis
 rw [g.eS]
 unfold isVis at hv
 split at hv <;> first | exact .inl (by assumption) | exact .inr (.inl (by assumption)) | exact .inr (.inr (by assumption)) | cases hv
theorem GX.loc (g : GX W G S k h cc X wx) {x : Str} (hv : isLoc cc x = true) : L2.Loc X.env.scope x ∧ (X.fn x = true ∨ X.env.scope.names.lookup x = some .local) := by
 unfold L2.Loc
 rw [g.eS]
 unfold isLoc at hv
 split at hv
 · exact ⟨.inl (by assumption), .inr (by assumption)⟩
 · exact ⟨.inr (by assumption), .inl (g.st x hv)⟩
 · cases hv
theorem GX.gl (g : GX W G S k h cc X wx) {x : Str} (hv : isGlob cc x = true) : Gl X x := by
 show X.env.scope.names.lookup x = _
 rw [g.eS]
 exact of_decide_eq_true hv
theorem plain_dbg {x : Str} (h : plainName x = true) : (x == ("__debug__" : Str)) = false ∧ (x == ("__classdict__" : Str)) = false ∧ x ≠ "__name__" := by
 unfold plainName at h
 rw [Bool.and_eq_true, Bool.and_eq_true] at h
 obtain ⟨⟨h1, h2⟩, h3⟩ := h
 refine ⟨?_, ?_, ?_⟩
 · cases q : x == ("__debug__" : Str)
   · rfl
   · rw [q] at h1; cases h1
 · cases q : x == ("__classdict__" : Str)
   · rfl
   · rw [q] at h2; cases h2
 · intro e
   rw [e] at h3
   revert h3
   decide +kernel
theorem GX.blt (g : GX W G S k h cc X wx) {x : Str} (hx : x ∈ blts) : X.mg x = none := by
 rw [g.eM]
 exact g.ok.blt x hx
theorem star_of {e : Expr} {es : List Expr} {env : PySem.Env} (h : notStar e = true) : starEach (e :: es) env = (false, eval e env) :: starEach es env := by
 cases e <;> first | rfl | cases h
theorem plain_of {pos : Pos} : ∀ {es : List Expr} {env : PySem.Env}, es.all notStar = true → (backTo pos (starEach es env)).any (·.1) = false
 | [], _, _ => rfl
 | e :: es, env, h => by
   rw [List.all_cons, Bool.and_eq_true] at h
   rw [star_of h.1]
   show (false || (backTo pos (starEach es env)).any (·.1)) = false
   rw [plain_of h.2]
   rfl
theorem j_v (g : GX W G S k h cc X wx) {i : Nat} {x : Str} {pos : Pos} (hN : cc.N[i]? = some x) (hv : isVis cc x = true) (hp : plainName x = true) : PE X (.Name x pos) (tD W S wx fun ρ M => R.of (getZ ρ i) M) := by
 obtain ⟨h1, h2, _⟩ := plain_dbg hp
 refine (pe_var (i := i) (by rw [g.eN]; exact hN) (g.vis hv) h1 h2).imp fun σ H Q hq => ?_
 obtain ⟨ι, ρ, M, rl, e⟩ := hq
 dsimp only at e
 cases q : getZ ρ i with
 | none => rw [q] at e; exact e.elim
 | some z =>
   rw [q] at e
   obtain ⟨v, h3, h4⟩ := rl.s.get q
   exact ⟨v, h3, EndG.now e rl.m h4⟩
theorem j_g (g : GX W G S k h cc X wx) {i : Nat} {x : Str} {pos : Pos} (hN : G.gn[i]? = some x) (hv : isGlob cc x = true) (hp : plainName x = true) : PE X (.Name x pos) (tD W S wx fun ρ M => R.of ((W.gv[i]?).map .d) M) := by
 obtain ⟨h1, h2, _⟩ := plain_dbg hp
 obtain ⟨u, v, d, hm, r, hd, den, _⟩ := g.ok.cons i x hN
 refine (pe_glob (v := v) (g.gl hv) (by rw [g.eM]; exact hm) r h1).imp fun σ H Q hq => ?_
 obtain ⟨ι, ρ, M, rl, e⟩ := hq
 dsimp only at e
 rw [hd] at e
 exact EndG.now e rl.m (.d (den ι H))
theorem j_c {e : Expr} {v : V} {d : D} (hc : PE X e (tC v)) (hd : ∀ ι H, Den W.K ι H v d) : PE X e (tD W S wx fun _ M => .ok (.d d) M) :=
 hc.imp fun σ H Q hq => by
   obtain ⟨ι, ρ, M, rl, e⟩ := hq
   dsimp only at e
   exact EndG.now e rl.m (.d (hd ι H))
theorem j_neg {a : Expr} {f : Env → Mem → R Z} {pos : Pos} (ha : PE X a (tD W S wx f)) : PE X (.UnaryOp .USub a pos) (tD W S wx fun ρ M => (f ρ M).bind fun x M1 => match x with
   | .d (.int i) => .ok (.d (.int (-i))) M1
   | _ => .bad) := by
 refine (pe_un un_neg ha).imp fun σ H Q hq => ?_
 obtain ⟨ι, ρ, M, rl, e⟩ := hq
 dsimp only at e
 refine ⟨ι, ρ, M, rl, e.step fun z M1 ι1 v1 H1 ex m d e1 => ?_⟩
 cases d with
 | r _ => exact e1.elim
 | f _ => exact e1.elim
 | d d =>
   cases d with
   | int i => exact ⟨i, rfl, EndG.now e1 m (.d (.int _))⟩
   | _ => exact e1.elim
theorem j_op2 {f : Operator} {r : Z → Z → Mem → R Z} {a b : Expr} {fa fb : Env → Mem → R Z} {pos : Pos} (ho : OpR X (binaryOp f) (rB2 W r)) (ha : PE X a (tD W S wx fa)) (hb : PE X b (tD W S wx fb)) :
   PE X (.BinOp a f b pos) (tD W S wx fun ρ M => (fa ρ M).bind fun x M1 => (fb ρ M1).bind fun y M2 => r x y M2) := by
 refine (pe_op ho ha hb).imp fun σ H Q hq => ?_
 obtain ⟨ι, ρ, M, rl, e⟩ := hq
 dsimp only at e
 refine ⟨ι, ρ, M, rl, e.step fun z M1 ι1 v1 H1 ex m d e1 => ⟨ι1, ρ, M1, rl.go ex m, e1.step fun z2 M2 ι2 v2 H2 ex2 m2 d2 e2 => ?_⟩⟩
 exact ⟨ι2, M2, z, z2, wx, σ, m2, d.mono ex2, d2, e2⟩
theorem j_cmp {f : CmpOp} {r : Z → Z → Mem → R Z} {a b : Expr} {fa fb : Env → Mem → R Z} {pos : Pos} (ho : OpR X (compareOp f) (rB2 W r)) (ha : PE X a (tD W S wx fa)) (hb : PE X b (tD W S wx fb)) (hm : behindInMarks f b = false) :
   PE X (.Compare a [f] [b] pos) (tD W S wx fun ρ M => (fa ρ M).bind fun x M1 => (fb ρ M1).bind fun y M2 => r x y M2) := by
 refine (pe_cmpR ho ha hb hm).imp fun σ H Q hq => ?_
 obtain ⟨ι, ρ, M, rl, e⟩ := hq
 dsimp only at e
 refine ⟨ι, ρ, M, rl, e.step fun z M1 ι1 v1 H1 ex m d e1 => ⟨ι1, ρ, M1, rl.go ex m, e1.step fun z2 M2 ι2 v2 H2 ex2 m2 d2 e2 => ?_⟩⟩
 exact ⟨ι2, M2, z, z2, wx, σ, m2, d.mono ex2, d2, e2⟩
theorem of_ok {α : Type} {o : Option α} {M M' : Mem} {c : α} (e : R.of o M = .ok c M') : M' = M := by
 cases o with
 | none => cases e
 | some _ => cases e; rfl
theorem of_ex {α : Type} {o : Option α} {M M' : Mem} {c : Exn} (e : R.of o M = .ex c M') : False := by
 cases o <;> cases e
theorem cpz_ok {op : COp} {x y : Z} {M M' : Mem} {c : Bool} (e : cpz op x y M = .ok c M') : M' = M := by
 unfold cpz at e
 split at e
 · exact of_ok e
 · split at e
   · exact of_ok e
   · cases e
theorem cpz_ex {op : COp} {x y : Z} {M M' : Mem} {c : Exn} (e : cpz op x y M = .ex c M') : False := by
 unfold cpz at e
 split at e
 · exact of_ex e
 · split at e
   · exact of_ex e
   · cases e
theorem cmp_bool {op : COp} {σ : St} {ι : Io} {H : Hp} {Q : Bool → Hp → Prop} {x y : Z} {M : Mem} (m : MI W ι H M) (e : EndG W wx σ ι H relB Q (cpz op x y M)) : EndG W wx σ ι H (DenZ W.K) (fun v H' => ∃ c, v = .bl c ∧ Q c H') (cmpZ op x y M) := by
 unfold cmpZ
 cases q : cpz op x y M with
 | ok c M1 =>
   rw [q] at e
   exact fun ι' v H' ex m' d => by
     cases d with
     | d d => cases d; exact ⟨_, rfl, e ι' _ H' ex m' rfl⟩
 | ex x1 M1 => exact (cpz_ex q).elim
 | bad => rw [q] at e; exact e.elim
theorem jt_cmp {f : CmpOp} {op : COp} {a b : Expr} {fa fb : Env → Mem → R Z} {pos : Pos} (ho : OpR X (compareOp f) (rB2 W (cmpZ op))) (ha : PE X a (tD W S wx fa)) (hb : PE X b (tD W S wx fb)) (hm : behindInMarks f b = false) :
   PT X (.Compare a [f] [b] pos) (tDT W S wx fun ρ M => (fa ρ M).bind fun x M1 => (fb ρ M1).bind fun y M2 => cpz op x y M2) := by
 refine (pt_cmpR ho ha hb hm).imp fun σ H Q hq => ?_
 obtain ⟨ι, ρ, M, rl, e⟩ := hq
 dsimp only at e
 refine ⟨ι, ρ, M, rl, e.step fun z M1 ι1 v1 H1 ex m d e1 => ⟨ι1, ρ, M1, rl.go ex m, e1.step fun z2 M2 ι2 v2 H2 ex2 m2 d2 e2 => ?_⟩⟩
 exact ⟨ι2, M2, z, z2, wx, σ, m2, d.mono ex2, d2, cmp_bool m2 e2⟩
theorem chain_fold {op op' : COp} {f f' : CmpOp} {σ : St} {ι : Io} {H : Hp} {Q : VK} {x y : Z} {vx vy : V} {M : Mem} {fc : Env → Mem → R Z} {ρ : Env} (rl : Rl W S ι σ H ρ M) (dx : DenZ W.K ι H vx x) (dy : DenZ W.K ι H vy y)
   (e : EndG W wx σ ι H (DenZ W.K) Q ((cpz op x y M).bind fun k M3 => if k then (fc ρ M3).bind fun z M4 => (cpz op' y z M4).bind fun k2 M5 => .ok (boolZ k2) M5 else .ok (boolZ false) M3)) :
   rB2 W (cmpZ op) vx vy H fun z H3 => ∃ k, z = .bl k ∧ (if k = true then tD W S wx fc σ H3 fun w' H4 => rB2 W (cmpZ op') vy w' H4 Q else Q (.bl false) H3) := by
 refine ⟨ι, M, x, y, wx, σ, rl.m, dx, dy, ?_⟩
 unfold cmpZ
 cases q : cpz op x y M with
 | ex x1 M1 => exact (cpz_ex q).elim
 | bad => rw [q] at e; exact e.elim
 | ok c M1 =>
   rw [q] at e
   obtain rfl := cpz_ok q
   intro ι' v H' ex m' d
   cases d with
   | d d =>
     cases d
     refine ⟨_, rfl, ?_⟩
     have e := EndG.mono ex e
     dsimp only [R.bind] at e
     cases c with
     | false => exact EndG.now e m' (.d (.bl false))
     | true =>
       rw [if_pos rfl] at e ⊢
       exact ⟨ι', ρ, M1, rl.go ex m', e.step fun z M4 ι4 v4 H4 ex4 m4 d4 e4 => ⟨ι4, M4, y, z, wx, σ, m4, (dy.mono ex).mono ex4, d4, e4⟩⟩
theorem j_chain {f f' : CmpOp} {op op' : COp} {a b c : Expr} {fa fb fc : Env → Mem → R Z} {pos : Pos} (ho : OpR X (compareOp f) (rB2 W (cmpZ op))) (ho' : OpR X (compareOp f') (rB2 W (cmpZ op'))) (ha : PE X a (tD W S wx fa)) (hb : PE X b (tD W S wx fb))
   (hc : PE X c (tD W S wx fc)) (hm : lastMarks [f, f'] [b, c] = false) :
   PE X (.Compare a [f, f'] [b, c] pos) (tD W S wx fun ρ M => (fa ρ M).bind fun x M1 => (fb ρ M1).bind fun y M2 => (cpz op x y M2).bind fun k M3 =>
     if k then (fc ρ M3).bind fun z M4 => (cpz op' y z M4).bind fun k2 M5 => .ok (boolZ k2) M5 else .ok (boolZ false) M3) := by
 refine (pe_chain ho ho' ha hb hc hm).imp fun σ H Q hq => ?_
 obtain ⟨ι, ρ, M, rl, e⟩ := hq
 dsimp only at e
 refine ⟨ι, ρ, M, rl, e.step fun z M1 ι1 v1 H1 ex m d e1 => ⟨ι1, ρ, M1, rl.go ex m, e1.step fun z2 M2 ι2 v2 H2 ex2 m2 d2 e2 => ?_⟩⟩
 exact chain_fold (f := f) (f' := f') ((rl.go ex m).go ex2 m2) (d.mono ex2) d2 e2
theorem chain_foldT {op op' : COp} {σ : St} {ι : Io} {H : Hp} {Q : Bool → Hp → Prop} {x y : Z} {vx vy : V} {M : Mem} {fc : Env → Mem → R Z} {ρ : Env} (rl : Rl W S ι σ H ρ M) (dx : DenZ W.K ι H vx x) (dy : DenZ W.K ι H vy y)
   (e : EndG W wx σ ι H relB Q ((cpz op x y M).bind fun k M3 => if k then (fc ρ M3).bind fun z M4 => cpz op' y z M4 else .ok false M3)) :
   rB2 W (cmpZ op) vx vy H fun z H3 => ∃ k, z = .bl k ∧ (if k = true then tD W S wx fc σ H3 fun w' H4 => rB2 W (cmpZ op') vy w' H4 (fun v H' => ∃ c, v = .bl c ∧ Q c H') else (∃ c, V.bl false = .bl c ∧ Q c H3)) := by
 refine ⟨ι, M, x, y, wx, σ, rl.m, dx, dy, ?_⟩
 unfold cmpZ
 cases q : cpz op x y M with
 | ex x1 M1 => exact (cpz_ex q).elim
 | bad => rw [q] at e; exact e.elim
 | ok c M1 =>
   rw [q] at e
   obtain rfl := cpz_ok q
   intro ι' v H' ex m' d
   cases d with
   | d d =>
     cases d
     refine ⟨_, rfl, ?_⟩
     have e := EndG.mono ex e
     dsimp only [R.bind] at e
     cases c with
     | false => exact ⟨false, rfl, e ι' _ H' (Ext.refl ι' H') m' rfl⟩
     | true =>
       rw [if_pos rfl] at e ⊢
       exact ⟨ι', ρ, M1, rl.go ex m', e.step fun z M4 ι4 v4 H4 ex4 m4 d4 e4 => ⟨ι4, M4, y, z, wx, σ, m4, (dy.mono ex).mono ex4, d4, cmp_bool m4 e4⟩⟩
theorem jt_chain {f f' : CmpOp} {op op' : COp} {a b c : Expr} {fa fb fc : Env → Mem → R Z} {pos : Pos} (ho : OpR X (compareOp f) (rB2 W (cmpZ op))) (ho' : OpR X (compareOp f') (rB2 W (cmpZ op'))) (ha : PE X a (tD W S wx fa)) (hb : PE X b (tD W S wx fb))
   (hc : PE X c (tD W S wx fc)) (hm : lastMarks [f, f'] [b, c] = false) :
   PT X (.Compare a [f, f'] [b, c] pos) (tDT W S wx fun ρ M => (fa ρ M).bind fun x M1 => (fb ρ M1).bind fun y M2 => (cpz op x y M2).bind fun k M3 =>
     if k then (fc ρ M3).bind fun z M4 => cpz op' y z M4 else .ok false M3) := by
 refine (pt_chain ho ho' ha hb hc hm).imp fun σ H Q hq => ?_
 obtain ⟨ι, ρ, M, rl, e⟩ := hq
 dsimp only at e
 refine ⟨ι, ρ, M, rl, e.step fun z M1 ι1 v1 H1 ex m d e1 => ⟨ι1, ρ, M1, rl.go ex m, e1.step fun z2 M2 ι2 v2 H2 ex2 m2 d2 e2 => ?_⟩⟩
 exact chain_foldT ((rl.go ex m).go ex2 m2) (d.mono ex2) d2 e2
theorem asB_step {σ : St} {ι : Io} {H : Hp} {α β : Type} {rel : Io → Hp → β → α → Prop} {Q : β → Hp → Prop} {z : Z} {v : V} {M : Mem} {f : Bool → Mem → R α} (d : DenZ W.K ι H v z) (e : EndG W wx σ ι H rel Q ((asB z M).bind f)) :
   ∃ b, v = .bl b ∧ EndG W wx σ ι H rel Q (f b M) := by
 cases d with
 | r _ => exact e.elim
 | f _ => exact e.elim
 | d d =>
   cases d with
   | bl b => exact ⟨b, rfl, e⟩
   | _ => exact e.elim
theorem j_not (g : GX W G S k h cc X wx) {a : Expr} {f : Env → Mem → R Z} {pos : Pos} (ha : PE X a (tD W S wx f)) : PE X (.UnaryOp .Not a pos) (tD W S wx fun ρ M => (f ρ M).bind fun x M1 => R.of ((truthZ x M1).map fun b => boolZ (!b)) M1) := by
 refine (pe_notT ha).imp fun σ H Q hq => ?_
 obtain ⟨ι, ρ, M, rl, e⟩ := hq
 dsimp only at e
 refine ⟨ι, ρ, M, rl, e.step fun z M1 ι1 v1 H1 ex m d e1 => ?_⟩
 cases q : truthZ z M1 with
 | none => rw [q] at e1; exact e1.elim
 | some b =>
   rw [q] at e1
   exact ⟨b, tru_Z g.eK m d q, EndG.now e1 m (.d (.bl _))⟩
theorem j_and {a b : Expr} {rest : List Expr} {f r : Env → Mem → R Z} {pos : Pos} (ha : PE X a (tD W S wx f)) (hr : PE X (.BoolOp .And (b :: rest) pos) (tD W S wx r)) :
   PE X (.BoolOp .And (a :: b :: rest) pos) (tD W S wx fun ρ M => (f ρ M).bind fun x M1 => (asB x M1).bind fun c M2 => if c then r ρ M2 else .ok (boolZ false) M2) := by
 refine (pe_and ha hr).imp fun σ H Q hq => ?_
 obtain ⟨ι, ρ, M, rl, e⟩ := hq
 dsimp only at e
 refine ⟨ι, ρ, M, rl, e.step fun z M1 ι1 v1 H1 ex m d e1 => ?_⟩
 obtain ⟨c, rfl, e2⟩ := asB_step d e1
 refine ⟨c, rfl, ?_⟩
 cases c with
 | true => exact ⟨ι1, ρ, M1, rl.go ex m, e2⟩
 | false => exact EndG.now e2 m (.d (.bl _))
theorem j_or {a b : Expr} {rest : List Expr} {f r : Env → Mem → R Z} {pos : Pos} (ha : PE X a (tD W S wx f)) (hr : PE X (.BoolOp .Or (b :: rest) pos) (tD W S wx r)) :
   PE X (.BoolOp .Or (a :: b :: rest) pos) (tD W S wx fun ρ M => (f ρ M).bind fun x M1 => (asB x M1).bind fun c M2 => if c then .ok (boolZ true) M2 else r ρ M2) := by
 refine (pe_or ha hr).imp fun σ H Q hq => ?_
 obtain ⟨ι, ρ, M, rl, e⟩ := hq
 dsimp only at e
 refine ⟨ι, ρ, M, rl, e.step fun z M1 ι1 v1 H1 ex m d e1 => ?_⟩
 obtain ⟨c, rfl, e2⟩ := asB_step d e1
 refine ⟨c, rfl, ?_⟩
 cases c with
 | true => exact EndG.now e2 m (.d (.bl _))
 | false => exact ⟨ι1, ρ, M1, rl.go ex m, e2⟩
theorem j_ite {c a b : Expr} {fc : Env → Mem → R Bool} {fa fb : Env → Mem → R Z} {pos : Pos} (hc : PT X c (tDT W S wx fc)) (ha : PE X a (tD W S wx fa)) (hb : PE X b (tD W S wx fb)) :
   PE X (.IfExp c a b pos) (tD W S wx fun ρ M => (fc ρ M).bind fun k M1 => if k then fa ρ M1 else fb ρ M1) := by
 refine (pe_ifExp hc ha hb).imp fun σ H Q hq => ?_
 obtain ⟨ι, ρ, M, rl, e⟩ := hq
 dsimp only at e
 refine ⟨ι, ρ, M, rl, e.step fun z M1 ι1 v1 H1 ex m d e1 => ?_⟩
 cases (show v1 = z from d)
 cases z with
 | true => exact ⟨ι1, ρ, M1, rl.go ex m, e1⟩
 | false => exact ⟨ι1, ρ, M1, rl.go ex m, e1⟩
theorem jt_not {a : Expr} {f : Env → Mem → R Bool} {pos : Pos} (ha : PT X a (tDT W S wx f)) : PT X (.UnaryOp .Not a pos) (tDT W S wx fun ρ M => (f ρ M).bind fun b M1 => .ok (!b) M1) := by
 refine (pt_not ha).imp fun σ H Q hq => ?_
 obtain ⟨ι, ρ, M, rl, e⟩ := hq
 dsimp only at e
 refine ⟨ι, ρ, M, rl, e.step fun z M1 ι1 v1 H1 ex m d e1 => ?_⟩
 cases (show v1 = z from d)
 exact EndG.now e1 m rfl
theorem _root_.L2.PW.imp {X : Cx} {e : Expr} {t u : TT} (h : PW X e t) (i : ∀ σ H Q, u σ H Q → t σ H Q) : PW X e u := ⟨fun wh pins s σ H Q I q => h.run wh pins s σ H Q I (i σ H Q q)⟩
theorem jt_and1 {a : Expr} {f : Env → Mem → R Bool} {pos : Pos} (ha : PT X a (tDT W S wx f)) : PW X (.BoolOp .And [a] pos) (tDT W S wx fun ρ M => (f ρ M).bind fun b M1 => if b then .ok true M1 else .ok false M1) := by
 refine (pw_and1 ha).imp fun σ H Q hq => ?_
 obtain ⟨ι, ρ, M, rl, e⟩ := hq
 dsimp only at e
 refine ⟨ι, ρ, M, rl, e.step fun z M1 ι1 v1 H1 ex m d e1 => ?_⟩
 cases (show v1 = z from d)
 cases z <;> exact EndG.now e1 m rfl
theorem jt_and {a b : Expr} {rest : List Expr} {f r : Env → Mem → R Bool} {pos : Pos} (ha : PT X a (tDT W S wx f)) (hr : PW X (.BoolOp .And (b :: rest) pos) (tDT W S wx r)) :
   PW X (.BoolOp .And (a :: b :: rest) pos) (tDT W S wx fun ρ M => (f ρ M).bind fun c M1 => if c then r ρ M1 else .ok false M1) := by
 refine (pw_and ha hr).imp fun σ H Q hq => ?_
 obtain ⟨ι, ρ, M, rl, e⟩ := hq
 dsimp only at e
 refine ⟨ι, ρ, M, rl, e.step fun z M1 ι1 v1 H1 ex m d e1 => ?_⟩
 cases (show v1 = z from d)
 cases z with
 | true => exact ⟨ι1, ρ, M1, rl.go ex m, e1⟩
 | false => exact EndG.now e1 m rfl
theorem jt_or1 {a : Expr} {f : Env → Mem → R Bool} {pos : Pos} (ha : PT X a (tDT W S wx f)) : PW X (.BoolOp .Or [a] pos) (tDT W S wx fun ρ M => (f ρ M).bind fun b M1 => if b then .ok true M1 else .ok false M1) := by
 refine (pw_or1 ha).imp fun σ H Q hq => ?_
 obtain ⟨ι, ρ, M, rl, e⟩ := hq
 dsimp only at e
 refine ⟨ι, ρ, M, rl, e.step fun z M1 ι1 v1 H1 ex m d e1 => ?_⟩
 cases (show v1 = z from d)
 cases z <;> exact EndG.now e1 m rfl
theorem jt_or {a b : Expr} {rest : List Expr} {f r : Env → Mem → R Bool} {pos : Pos} (ha : PT X a (tDT W S wx f)) (hr : PW X (.BoolOp .Or (b :: rest) pos) (tDT W S wx r)) :
   PW X (.BoolOp .Or (a :: b :: rest) pos) (tDT W S wx fun ρ M => (f ρ M).bind fun c M1 => if c then .ok true M1 else r ρ M1) := by
 refine (pw_or ha hr).imp fun σ H Q hq => ?_
 obtain ⟨ι, ρ, M, rl, e⟩ := hq
 dsimp only at e
 refine ⟨ι, ρ, M, rl, e.step fun z M1 ι1 v1 H1 ex m d e1 => ?_⟩
 cases (show v1 = z from d)
 cases z with
 | false => exact ⟨ι1, ρ, M1, rl.go ex m, e1⟩
 | true => exact EndG.now e1 m rfl
theorem plain_test {a : Expr} {env : PySem.Env} (h : plainTest a = true) : ∀ whole, isTrue a env whole = (do let v ← whole; standAt a.pos; holding [v] (truthy v)) := by
 intro whole
 cases a <;> first | rfl | cases h | skip
 rename_i op x p
 cases op <;> first | rfl | cases h
theorem jt_e (g : GX W G S k h cc X wx) {a : Expr} {f : Env → Mem → R Z} (ha : PE X a (tD W S wx f)) (hp : plainTest a = true) : PT X a (tDT W S wx fun ρ M => (f ρ M).bind fun x M1 => R.of (truthZ x M1) M1) := by
 refine (pt_truth ha (plain_test hp)).imp fun σ H Q hq => ?_
 obtain ⟨ι, ρ, M, rl, e⟩ := hq
 dsimp only at e
 refine ⟨ι, ρ, M, rl, e.step fun z M1 ι1 v1 H1 ex m d e1 => ?_⟩
 cases q : truthZ z M1 with
 | none => rw [q] at e1; exact e1.elim
 | some c =>
   rw [q] at e1
   exact ⟨c, tru_Z g.eK m d q, EndG.now e1 m rfl⟩
theorem j_nil : PA X [] (tDs W S wx fun _ M => .ok [] M) := pa_nil.imp fun σ H Q hq => by
 obtain ⟨ι, ρ, M, rl, e⟩ := hq
 dsimp only at e
 exact EndG.now e rl.m .nil
theorem j_cons {a : Expr} {es : List Expr} {f : Env → Mem → R Z} {r : Env → Mem → R (List Z)} (ha : PE X a (tD W S wx f)) (hr : PA X es (tDs W S wx r)) (hn : notStar a = true) :
   PA X (a :: es) (tDs W S wx fun ρ M => (f ρ M).bind fun x M1 => (r ρ M1).bind fun xs M2 => .ok (x :: xs) M2) := by
 refine (pa_cons ha hr (star_of hn)).imp fun σ H Q hq => ?_
 obtain ⟨ι, ρ, M, rl, e⟩ := hq
 dsimp only at e
 refine ⟨ι, ρ, M, rl, e.step fun z M1 ι1 v1 H1 ex m d e1 => ⟨ι1, ρ, M1, rl.go ex m, e1.step fun zs M2 ι2 vs H2 ex2 m2 d2 e2 => ?_⟩⟩
 exact EndG.now e2 m2 (.cons (d.mono ex2) d2)
theorem R.of_map {o : Option (List D)} {g : List D → Z} {σ : St} {ι : Io} {H : Hp} {Q : VK} {M : Mem} (e : EndG W wx σ ι H (DenZ W.K) Q (R.of (o.map g) M)) : ∃ ds, o = some ds ∧ EndG W wx σ ι H (DenZ W.K) Q (.ok (g ds) M) := by
 cases o with
 | none => exact e.elim
 | some ds => exact ⟨ds, rfl, e⟩
theorem stepE {σ : St} {ι : Io} {H : Hp} {α β γ δ : Type} {rel : Io → Hp → β → α → Prop} {rel2 : Io → Hp → δ → γ → Prop} {Q : δ → Hp → Prop} {G : β → Hp → Prop} {r : R α} {f : α → Mem → R γ}
   (h : EndG W wx σ ι H rel2 Q (r.bind f)) (g : ∀ z M1 ι1 v1 H1, r = .ok z M1 → Ext ι H ι1 H1 → MI W ι1 H1 M1 → rel ι1 H1 v1 z → EndG W wx σ ι1 H1 rel2 Q (f z M1) → G v1 H1) : EndG W wx σ ι H rel G r := by
 cases r with
 | ok z M => exact fun ι1 v1 H1 ex m d => g z M ι1 v1 H1 rfl ex m d (EndG.mono ex h)
 | ex x M => exact h
 | bad => exact h
theorem j_tup {es : List Expr} {r : Env → Mem → R (List Z)} {x1 : Nat} {pos : Pos} (hr : PA X es (tDs W S wx r)) (hl : ∀ ρ M zs M', r ρ M = .ok zs M' → zs.length ≤ slen) :
   PE X (.Tuple es x1 pos) (tD W S wx fun ρ M => (r ρ M).bind fun zs M1 => R.of ((dsOf zs).map fun ds => .d (.tuple ds)) M1) := by
 refine (pe_tup hr).imp fun σ H Q hq => ?_
 obtain ⟨ι, ρ, M, rl, e⟩ := hq
 dsimp only at e
 refine ⟨ι, ρ, M, rl, stepE e fun zs M2 ι1 vs H1 q ex m d e1 => ?_⟩
 obtain ⟨ds, q2, e2⟩ := R.of_map e1
 exact ⟨sl_of (by rw [d.length]; exact hl _ _ _ _ q), fun p hp => e2 ι1 _ _ (Ext.new hp) (m.new hp) (.d (.newT m.has hp (d.data q2)))⟩
theorem j_lst {es : List Expr} {r : Env → Mem → R (List Z)} {pos : Pos} (hr : PA X es (tDs W S wx r)) (hl : ∀ ρ M zs M', r ρ M = .ok zs M' → zs.length ≤ slen) :
   PE X (.List es pos) (tD W S wx fun ρ M => (r ρ M).bind fun zs M1 => R.of ((dsOf zs).map fun ds => .d (.list ds)) M1) := by
 refine (pe_lst hr).imp fun σ H Q hq => ?_
 obtain ⟨ι, ρ, M, rl, e⟩ := hq
 dsimp only at e
 refine ⟨ι, ρ, M, rl, stepE e fun zs M2 ι1 vs H1 q ex m d e1 => ?_⟩
 obtain ⟨ds, q2, e2⟩ := R.of_map e1
 exact ⟨sl_of (by rw [d.length]; exact hl _ _ _ _ q), fun p hp => e2 ι1 _ _ (Ext.new hp) (m.new hp) (.d (.newL m.has hp (d.data q2)))⟩
theorem j_mls {es : List Expr} {r : Env → Mem → R (List Z)} {pos : Pos} (hr : PA X es (tDs W S wx r)) (hl : ∀ ρ M zs M', r ρ M = .ok zs M' → zs.length ≤ slen) :
   PE X (.List es pos) (tD W S wx fun ρ M => (r ρ M).bind fun zs M1 => match dsOf zs with
     | some ds => .ok (.r M1.length) (M1 ++ [.lst ds])
     | none => .bad) := by
 refine (pe_lst hr).imp fun σ H Q hq => ?_
 obtain ⟨ι, ρ, M, rl, e⟩ := hq
 dsimp only at e
 refine ⟨ι, ρ, M, rl, stepE e fun zs M2 ι1 vs H1 q ex m d e1 => ?_⟩
 cases q2 : dsOf zs with
 | none => rw [q2] at e1; exact e1.elim
 | some ds =>
   rw [q2] at e1
   refine ⟨sl_of (by rw [d.length]; exact hl _ _ _ _ q), fun p hp => e1 _ _ _ (Ext.newM hp) (m.newM hp (d.data q2)) (.r ?_)⟩
   rw [← m.m.len]; show (ι1.pl ++ [p])[ι1.pl.length]? = some p; rw [List.getElem?_append_right (Nat.le_refl _)]
   simp
theorem boot_bi (b : Bi) : bootBuiltins b.n = some b.v := by cases b <;> decide +kernel
theorem bi_in (b : Bi) : b.n ∈ blts := by cases b <;> decide +kernel
theorem bi_plain (b : Bi) : (b.n == ("__debug__" : Str)) = false ∧ b.n ≠ "__name__" := by cases b <;> decide +kernel
theorem j_bad {e : Expr} {f : Env → Mem → R Z} (hf : ∀ ρ M, f ρ M = .bad) : PE X e (tD W S wx f) := ⟨fun pins s σ H Q I hq => by
 obtain ⟨ι, ρ, M, rl, e⟩ := hq
 rw [hf] at e
 exact e.elim⟩
theorem j_bi (g : GX W G S k h cc X wx) {b : Bi} {y : Expr} {ys : List Expr} {r : Env → Mem → R (List Z)} {p pos : Pos} (hw : (h && b.walks) = false) (hr : PA X (y :: ys) (tDs W S wx r)) (hn : (y :: ys).all notStar = true) (hg : isGlob cc b.n = true) :
   PE X (.Call (.Name b.n p) (y :: ys) [] pos) (tD W S wx fun ρ M => (r ρ M).bind fun zs M1 => biz b zs M1) := by
 have hc : X.calm = true ∨ (L2H.HotC X ∧ b.walks = false) := by
   cases h with
   | false => exact .inl (g.calm rfl).1
   | true => exact .inr ⟨g.hot rfl, hw⟩
 have hn' := hn
 rw [List.all_cons, Bool.and_eq_true] at hn'
 have hv := boot_bi b
 have main : PE X (.Call (.Name b.n p) (y :: ys) [] pos) (tCB (rBn W (biz b)) (tDs W S wx r)) := by
   have hcall := call_bi (W := W) g.eW g.eK (by have := g.room.un; omega) b hc
   cases b <;> first
     | exact pe_callB hcall (g.gl hg) (g.blt (bi_in _)) hv hr (bi_plain _).2 (bi_plain _).1 (star_of hn'.1) (plain_of hn'.2)
     | exact pe_callTy hcall (g.gl hg) (g.blt (bi_in _)) hv hr (bi_plain _).2 (bi_plain _).1 (star_of hn'.1) (plain_of hn'.2)
 refine main.imp fun σ H Q hq => ?_
 obtain ⟨ι, ρ, M, rl, e⟩ := hq
 dsimp only at e
 exact ⟨ι, ρ, M, rl, e.step fun zs M2 ι1 vs H1 ex m d e1 => ⟨ι1, M2, zs, wx, σ, m, d, e1⟩⟩
theorem ty_plain (t : Ty) : (t.n == ("__debug__" : Str)) = false ∧ t.n ≠ "__name__" ∧ t.n ∈ blts ∧ bootBuiltins t.n = some (.type t.s) := by cases t <;> decide +kernel
theorem kit_b (t : Ty) : kitB "bool" t.s = some (match t with | .bool | .int => true | _ => false) := by cases t <;> decide +kernel
theorem kit_i (t : Ty) : kitB "int" t.s = some (match t with | .int => true | _ => false) := by cases t <;> decide +kernel
theorem kit_s (t : Ty) : kitB "str" t.s = some (match t with | .str => true | _ => false) := by cases t <;> decide +kernel
theorem kit_l (t : Ty) : kitB "list" t.s = some (match t with | .list => true | _ => false) := by cases t <;> decide +kernel
theorem kit_t (t : Ty) : kitB "tuple" t.s = some (match t with | .tuple => true | _ => false) := by cases t <;> decide +kernel
theorem kit_n (t : Ty) : kitB "NoneType" t.s = some false := by cases t <;> decide +kernel
theorem ty_kit {K : PySem.W.Frag} {ι : Io} {H : Hp} {v : V} {d : D} (t : Ty) (h : Den K ι H v d) (kn : tyKnown d = true) : ∃ u, TyX K H v u ∧ PySem.W.kitOne K u (.type t.s) = some (tyOk d t) := by
 cases h with
 | non => exact ⟨.type "NoneType", .base .non, (kit_ty (kit_n t)).trans (by cases t <;> rfl)⟩
 | bl b => exact ⟨.type "bool", .base (.bl b), (kit_ty (kit_b t)).trans (by cases t <;> rfl)⟩
 | int b => exact ⟨.type "int", .base (.int b), (kit_ty (kit_i t)).trans (by cases t <;> rfl)⟩
 | str b => exact ⟨.type "str", .base (.str b), (kit_ty (kit_s t)).trans (by cases t <;> rfl)⟩
 | lst h1 _ => exact ⟨.type "list", .base (.lst h1.2), (kit_ty (kit_l t)).trans (by cases t <;> rfl)⟩
 | tup h1 _ =>
   refine ⟨.type "tuple", ?_, (kit_ty (kit_t t)).trans (by cases t <;> rfl)⟩
   rcases h1 with ⟨_, h1⟩ | ⟨⟨o, its, n, h1, h2, _⟩, _⟩
   · exact .base (.tup h1)
   · exact .kTuple h1 h2
 | er0 _ _ _ => cases kn
 | er1 _ _ _ _ => cases kn
theorem boot_isi : bootBuiltins ("isinstance" : Str) = some (.builtin "isinstance") := by decide +kernel
theorem j_isi (g : GX W G S k h cc X wx) {t : Ty} {y : Expr} {f : Env → Mem → R Z} {p p2 pos : Pos} (hy : PE X y (tD W S wx f)) (hn : notStar y = true) (hg : isGlob cc ("isinstance" : Str) = true) (hg2 : isGlob cc t.n = true) :
   PE X (.Call (.Name ("isinstance" : Str) p) [y, .Name t.n p2] [] pos) (tD W S wx fun ρ M => (f ρ M).bind fun x M1 => isz t x M1) := by
 obtain ⟨t1, t2, t3, t4⟩ := ty_plain t
 have hb : PE X (.Name t.n p2) (tC (.ty t.s)) := pe_bltn (g.gl hg2) (g.blt t3) t4 rfl t2 t1
 refine (pe_callB call_isi (g.gl hg) (g.blt (by decide +kernel)) boot_isi (pa_cons hy (pa_cons hb pa_nil) (star_of hn)) (by decide +kernel) (by decide +kernel) (star_of hn)).imp fun σ H Q hq => ?_
 obtain ⟨ι, ρ, M, rl, e⟩ := hq
 dsimp only at e
 refine ⟨ι, ρ, M, rl, e.step fun z M1 ι1 v1 H1 ex m d e1 => ?_⟩
 show rIsi X.K [v1, V.ty t.s] H1 Q
 cases d with
 | d d =>
   rename_i dd
   have e1 : EndG W wx σ ι1 H1 (DenZ W.K) Q (if tyKnown dd then .ok (.d (.bool (tyOk dd t))) M1 else .bad) := e1
   split at e1
   · rename_i kn
     obtain ⟨u, h1, h2⟩ := ty_kit t d kn
     exact ⟨v1, .ty t.s, u, .type t.s, _, rfl, .ty _, by rw [g.eK]; exact h1, by rw [g.eK]; exact h2, EndG.now e1 m (.d (.bl _))⟩
   · exact e1.elim
 | f _ => exact e1.elim
 | r hx =>
   rename_i n a
   have e1 : EndG W wx σ ι1 H1 (DenZ W.K) Q (match M1[n]? with
     | some (.lst _) => .ok (.d (.bool (decide (t = .list)))) M1
     | _ => .bad) := e1
   cases q : M1[n]? with
   | none => rw [q] at e1; exact e1.elim
   | some o =>
     rw [q] at e1
     have c := m.cell q hx
     cases o with
     | lst ds =>
       obtain ⟨xs, h1, _⟩ := c
       refine ⟨_, .ty t.s, .type "list", .type t.s, _, rfl, .ty _, .base (.lst h1), (kit_ty (kit_l t)).trans ?_, EndG.now e1 m (.d (.bl _))⟩
       cases t <;> rfl
     | _ => exact e1.elim
end
end Zt
namespace Zt
open PySem PySem.Spec PyProof.Rows L2
section
variable {W : Wd} {G : Stat} {S : Sc} {k : Nat} {h : Bool} {cc : CC} {X : Cx} {wx : WX}
theorem base_of {o : Expr} {n : Str} {env : PySem.Env} (hp : plainRecv o = true) (w : Sem Value) : attributeBase o n env w = w := by
 unfold attributeBase
 split
 · cases hp
 · rfl
theorem mt_swap : MtR X "str.swapcase" (fun x xs H Q => ∃ a, x = .str a ∧ xs = [] ∧ a.length ≤ 5592405 ∧ Q (.str (Txt.swapcase a)) H) :=
 mt0 (C := fun a => a.length ≤ 5592405) (g := fun a => .str (Txt.swapcase a)) fun a _ s _ hc hq =>
   PySem.SC.swapcase (PyProof.Rows.short24 (by have h1 : a.length ≤ 5592405 := hc; have := PyProof.Rows.len_swapcase a; omega)) (hq _ (s.toks + 1) ⟨_, rfl⟩)
theorem rcv_str {m : Mt} {z : Z} {v : V} {ι : Io} {H : Hp} {M : Mem} (hm : m ≠ .append ∧ m ≠ .pop) (d : DenZ W.K ι H v z) (e : rcv m z M = true) : ∃ a, z = .d (.str a) ∧ v = .str a := by
 cases d with
 | r _ => cases m <;> first | cases e | exact absurd rfl hm.1 | exact absurd rfl hm.2
 | f _ => cases m <;> first | cases e | exact absurd rfl hm.1
 | d d =>
   cases d with
   | str a => exact ⟨a, rfl, rfl⟩
   | _ => cases m <;> cases e
theorem ite_step {σ : St} {ι : Io} {H : Hp} {Q : VK} {c : Bool} {r : R Z} (e : EndG W wx σ ι H (DenZ W.K) Q (if c then r else .bad)) : c = true ∧ EndG W wx σ ι H (DenZ W.K) Q r := by
 cases c with
 | true => exact ⟨rfl, e⟩
 | false => exact e.elim
theorem j_m0 (g : GX W G S k h cc X wx) {m : Mt} {o : Expr} {f : Env → Mem → R Z} {ap p : Pos} (hm : m = .lower ∨ m = .upper ∨ m = .swapcase) (ho : PE X o (tD W S wx f)) (hp : plainRecv o = true) (hl : (ap.endLine == p.line) = true) :
   PE X (.Call (.Attribute o m.n ap) [] [] p) (tD W S wx fun ρ M => (f ρ M).bind fun x M1 => if rcv m x M1 then (R.ok [] M1).bind fun zs M2 => mtz m x zs M2 else .bad) := by
 have h5 : slen ≤ 5592405 := by decide +kernel
 have main : ∀ (fn : Str → Str), (∀ a, mtd m (.str a) [] = if a.length ≤ slen then some (.str (fn a)) else none) → (m ≠ .append ∧ m ≠ .pop) →
     PE X (.Call (.Attribute o m.n ap) [] [] p) (tM0 (fun x xs H Q => ∃ a, x = .str a ∧ xs = [] ∧ a.length ≤ 5592405 ∧ Q (.str (fn a)) H) (tD W S wx f)) →
     PE X (.Call (.Attribute o m.n ap) [] [] p) (tD W S wx fun ρ M => (f ρ M).bind fun x M1 => if rcv m x M1 then (R.ok [] M1).bind fun zs M2 => mtz m x zs M2 else .bad) := fun fn em hna hpe => by
   refine hpe.imp fun σ H Q hq => ?_
   obtain ⟨ι, ρ, M, rl, e⟩ := hq
   dsimp only at e
   refine ⟨ι, ρ, M, rl, e.step fun z M1 ι1 v1 H1 ex mm d e1 => ?_⟩
   obtain ⟨hc, e1⟩ := ite_step e1
   obtain ⟨a, rfl, rfl⟩ := rcv_str hna d hc
   have hz : mtz m (.d (.str a)) [] M1 = R.of ((mtd m (.str a) []).map .d) M1 := by cases m <;> rfl
   have e1 : EndG W wx σ ι1 H1 (DenZ W.K) Q (mtz m (.d (.str a)) [] M1) := e1
   rw [hz] at e1
   obtain ⟨z2, ez, q⟩ := EndG.of e1
   rw [em] at ez
   split at ez
   · rename_i hl2
     cases ez
     exact ⟨⟨_, rfl⟩, a, rfl, rfl, Nat.le_trans hl2 h5, q _ H1 (Ext.refl ι1 H1) mm (.str _)⟩
   · cases ez
 rcases hm with rfl | rfl | rfl
 · exact main Txt.lower (fun _ => rfl) ⟨(fun z => nomatch z), (fun z => nomatch z)⟩ (pe_m0 F.slot_str_lower F.type_str_lower mt_lower ho (base_of hp _) hl)
 · exact main Txt.upper (fun _ => rfl) ⟨(fun z => nomatch z), (fun z => nomatch z)⟩ (pe_m0 F.slot_str_upper F.type_str_upper mt_upper ho (base_of hp _) hl)
 · exact main Txt.swapcase (fun _ => rfl) ⟨(fun z => nomatch z), (fun z => nomatch z)⟩ (pe_m0 F.slot_str_swapcase F.type_str_swapcase mt_swap ho (base_of hp _) hl)
theorem star1 {e : Expr} {env : PySem.Env} (hn : notStar e = true) : starEach [e] env = [(false, eval e env)] := star_of hn
theorem j_m1 (g : GX W G S k h cc X wx) {m : Mt} {o y : Expr} {f fy : Env → Mem → R Z} {ap p : Pos} (hm : m = .split ∨ m = .join ∨ m = .count) (ho : PE X o (tD W S wx f)) (hy : PE X y (tD W S wx fy)) (hn : notStar y = true) (hp : plainRecv o = true) (hl : (ap.endLine == p.line) = true) :
   PE X (.Call (.Attribute o m.n ap) [y] [] p) (tD W S wx fun ρ M => (f ρ M).bind fun x M1 => if rcv m x M1 then ((fy ρ M1).bind fun u M2 => (R.ok [] M2).bind fun us M3 => R.ok (u :: us) M3).bind fun zs M4 => mtz m x zs M4 else .bad) := by
 have main : ∀ (r : V → List V → Hp → VK → Prop), (m ≠ .append ∧ m ≠ .pop) → PE X (.Call (.Attribute o m.n ap) [y] [] p) (tM1 r (tD W S wx f) (tD W S wx fy)) →
     (∀ (ι : Io) (M : Mem) (a : Str) (b : Z) (w : V) (H : Hp) (σ : St) (Q : VK), MI W ι H M → DenZ W.K ι H w b → EndG W wx σ ι H (DenZ W.K) Q (mtz m (.d (.str a)) [b] M) → r (.str a) [w] H Q) →
     PE X (.Call (.Attribute o m.n ap) [y] [] p) (tD W S wx fun ρ M => (f ρ M).bind fun x M1 => if rcv m x M1 then ((fy ρ M1).bind fun u M2 => (R.ok [] M2).bind fun us M3 => R.ok (u :: us) M3).bind fun zs M4 => mtz m x zs M4 else .bad) := fun r hna hpe hr => by
   refine hpe.imp fun σ H Q hq => ?_
   obtain ⟨ι, ρ, M, rl, e⟩ := hq
   dsimp only at e
   refine ⟨ι, ρ, M, rl, e.step fun z M1 ι1 v1 H1 ex mm d e1 => ?_⟩
   obtain ⟨hc, e1⟩ := ite_step e1
   obtain ⟨a, rfl, rfl⟩ := rcv_str hna d hc
   refine ⟨⟨a, rfl⟩, ι1, ρ, M1, rl.go ex mm, ?_⟩
   have e2 : EndG W wx σ ι1 H1 (DenZ W.K) Q ((fy ρ M1).bind fun u M2 => mtz m (.d (.str a)) [u] M2) := by
     cases q : fy ρ M1 <;> (rw [q] at e1; exact e1)
   refine e2.step fun u M2 ι2 v2 H2 ex2 m2 d2 e3 => ?_
   exact hr ι2 M2 a u v2 H2 σ Q m2 d2 e3
 rcases hm with rfl | rfl | rfl
 · refine main _ ⟨(fun z => nomatch z), (fun z => nomatch z)⟩ (pe_m1 F.slot_str_split F.type_str_split mt_split ho hy (star1 hn) (base_of hp _) hl) fun ι M a b w H σ Q m d e => ?_
   cases d with
   | r _ => exact e.elim
   | f _ => exact e.elim
   | d d =>
   obtain ⟨z2, ez, q⟩ := EndG.of (show EndG W wx σ ι H (DenZ W.K) Q (R.of ((mtd .split (.str a) [_]).map .d) M) from e)
   cases d with
   | str y =>
     simp only [mtd] at ez
     split at ez
     · rename_i hl2
       cases ez
       have h3 : slen + 2 ≤ sizeLine := by decide +kernel
       exact ⟨a, y, rfl, rfl, hl2.1, by omega, fun p hp => q _ _ (Ext.new hp) (m.new hp) (.newL m.has hp (DenL.strs _))⟩
     · cases ez
   | _ => cases ez
 · refine main _ ⟨(fun z => nomatch z), (fun z => nomatch z)⟩ (pe_m1 F.slot_str_join F.type_str_join mt_join ho hy (star1 hn) (base_of hp _) hl) fun ι M a b w H σ Q m d e => ?_
   have e : EndG W wx σ ι H (DenZ W.K) Q (R.of (((lsZ M b).bind fun xs => mtd .join (.str a) [.list xs]).map .d) M) := by
     cases b with
     | r n => exact e
     | f n => exact False.elim e
     | d x =>
       cases x with
       | list xs => exact e
       | _ => exact False.elim e
   obtain ⟨z2, ez, q⟩ := EndG.of e
   obtain ⟨xs, q2, ez⟩ := Option.bind_eq_some_iff.mp ez
   obtain ⟨p, us, rfl, h1, l1⟩ := lsZ_rd m d q2
   obtain ⟨ss, q3, e3⟩ := Option.bind_eq_some_iff.mp (show (strsOf _).bind (fun ss => if (ss.map (·.length)).sum + ss.length * a.length ≤ slen then some (PyData.str (Txt.join a ss)) else none) = some z2 from ez)
   split at e3
   · rename_i hl2
     cases e3
     obtain ⟨e4, e5⟩ := l1.ofStrs q3
     subst e4
     have h3 : slen ≤ 16777216 := by decide +kernel
     exact ⟨a, _, ss, rfl, rfl, .inl (.inl (.inl h1)), by omega, q _ H (Ext.refl ι H) m (.str _)⟩
   · cases e3
 · refine main _ ⟨(fun z => nomatch z), (fun z => nomatch z)⟩ (pe_m1 F.slot_str_count F.type_str_count mt_count ho hy (star1 hn) (base_of hp _) hl) fun ι M a b w H σ Q m d e => ?_
   cases d with
   | r _ => exact e.elim
   | f _ => exact e.elim
   | d d =>
   obtain ⟨z2, ez, q⟩ := EndG.of (show EndG W wx σ ι H (DenZ W.K) Q (R.of ((mtd .count (.str a) [_]).map .d) M) from e)
   cases d with
   | str y =>
     cases ez
     exact ⟨a, y, rfl, rfl, q _ H (Ext.refl ι H) m (.int _)⟩
   | _ => cases ez
theorem few_of {es : List Expr} {env : PySem.Env} {cpos : Pos} (hn : es.all notStar = true) (hl : es.length < 20) :
   ((backTo cpos (starEach es env)).all (fun x => !x.1) && (backToKw cpos (keywordEach [] env)).all (fun x => x.1.isSome) && decide (es.length + ([] : List Keyword).length + (if ([] : List Keyword).isEmpty then 0 else 1) < 30)) = true := by
 have h1 : ∀ (es : List Expr), es.all notStar = true → (backTo cpos (starEach es env)).all (fun x => !x.1) = true := fun es => by
   induction es with
   | nil => intro _; rfl
   | cons e r ih =>
     intro h
     rw [List.all_cons, Bool.and_eq_true] at h
     rw [star_of h.1]
     show ((!false) && (backTo cpos (starEach r env)).all (fun x => !x.1)) = true
     rw [ih h.2]
     rfl
 rw [h1 es hn]
 simp [backToKw, keywordEach]
 omega
theorem getL_some {M : Mem} {n : Nat} {l : List D} (h : getL M n = some l) : M[n]? = some (.lst l) := by
 unfold getL at h
 split at h
 · rename_i q
   cases Option.some.inj h
   exact q
 · cases h
theorem rcv_app {z : Z} {v : V} {ι : Io} {H : Hp} {M : Mem} (m : MI W ι H M) (d : DenZ W.K ι H v z) (e : rcv .append z M = true) : ∃ n a xs, z = .r n ∧ v = .ref a ∧ ι.pl[n]? = some a ∧ H a = some (.lst xs) := by
 cases d with
 | d d => cases d <;> cases e
 | f _ => cases e
 | @r n a hx =>
   have e : (match M[n]? with
     | some (.lst _) => true
     | _ => false) = true := e
   cases q : M[n]? with
   | none => rw [q] at e; cases e
   | some o1 =>
     rw [q] at e
     have c := m.cell q hx
     cases o1 with
     | lst ds =>
       obtain ⟨xs, h1, _⟩ := c
       exact ⟨n, a, xs, rfl, rfl, hx, h1⟩
     | _ => cases e
theorem j_app (g : GX W G S k h cc X wx) {o y : Expr} {f fy : Env → Mem → R Z} {ap p : Pos} (ho : PE X o (tD W S wx f)) (hy : PE X y (tD W S wx fy)) (hn : notStar y = true) (hp : plainRecv o = true) (hl : (ap.endLine == p.line) = true) :
   PE X (.Call (.Attribute o Mt.append.n ap) [y] [] p) (tD W S wx fun ρ M => (f ρ M).bind fun x M1 => if rcv .append x M1 then ((fy ρ M1).bind fun u M2 => (R.ok [] M2).bind fun us M3 => R.ok (u :: us) M3).bind fun zs M4 => mtz .append x zs M4 else .bad) := by
 refine (pe_bm (id := "list.append") PySem.F.plainAttrs_list PySem.F.slot_list_append PySem.F.type_list_append mt_append ho (pa_cons hy pa_nil (star_of hn)) (base_of hp _) (few_of (es := [y]) (by simp [hn]) (by simp)) hl (star_of hn) rfl).imp fun σ H Q hq => ?_
 obtain ⟨ι, ρ, M, rl, e⟩ := hq
 dsimp only at e
 refine ⟨ι, ρ, M, rl, e.step fun z M1 ι1 v1 H1 ex mm d e1 => ?_⟩
 obtain ⟨hc, e1⟩ := ite_step e1
 obtain ⟨n, a, xs, rfl, rfl, hx, h1⟩ := rcv_app mm d hc
 refine ⟨.inl ⟨rfl, xs, .inl (.inl h1)⟩, ι1, ρ, M1, rl.go ex mm, ?_⟩
 have e2 : EndG W wx σ ι1 H1 (DenZ W.K) Q ((fy ρ M1).bind fun u M2 => mtz .append (.r n) [u] M2) := by
   cases q : fy ρ M1 <;> (rw [q] at e1; exact e1)
 refine e2.step fun u M2 ι2 v2 H2 ex2 m2 d2 e3 => ?_
 cases d2 with
 | r _ => exact e3.elim
 | f _ => exact e3.elim
 | @d _ y d2 =>
   have e3 : EndG W wx σ ι2 H2 (DenZ W.K) Q (match getL M2 n with
     | some l => if l.length < llen then .ok (.d .none) (M2.set n (.lst (l ++ [y]))) else .bad
     | none => .bad) := e3
   cases q2 : getL M2 n with
   | none => rw [q2] at e3; exact e3.elim
   | some l =>
     rw [q2] at e3
     obtain ⟨ys, h3, l3⟩ := m2.cell (getL_some q2) (ex2.at hx)
     dsimp only at e3
     split at e3
     · rename_i hlen
       exact ⟨a, ys, v2, rfl, rfl, h3, Nat.lt_of_lt_of_le (by rw [l3.length]; exact hlen) (by decide +kernel : llen ≤ sizeLine), e3 ι2 _ _ (Ext.wr (List.mem_of_getElem? (ex2.at hx)) h3 fun _ _ z => nomatch z) (m2.wr (ex2.at hx) h3 (l3.append (.cons d2 .nil))) (.d .non)⟩
     · exact e3.elim
theorem rcv_pop {z : Z} {v : V} {ι : Io} {H : Hp} {M : Mem} (m : MI W ι H M) (d : DenZ W.K ι H v z) (e : rcv .pop z M = true) : ∃ n a xs, z = .r n ∧ v = .ref a ∧ ι.pl[n]? = some a ∧ H a = some (.lst xs) := by
 cases d with
 | d d => cases d <;> cases e
 | f _ => cases e
 | @r n a hx => exact rcv_app m (.r hx) e
theorem DenL.dropLast {K : PySem.W.Frag} {ι : Io} {H : Hp} {vs : List V} {ds : List D} (l : DenL K ι H vs ds) : DenL K ι H vs.dropLast ds.dropLast := by
 rw [List.dropLast_eq_take, List.dropLast_eq_take, l.length]
 exact l.take _
theorem j_pop (g : GX W G S k h cc X wx) {o : Expr} {f : Env → Mem → R Z} {ap p : Pos} (ho : PE X o (tD W S wx f)) (hp : plainRecv o = true) (hl : (ap.endLine == p.line) = true) :
   PE X (.Call (.Attribute o Mt.pop.n ap) [] [] p) (tD W S wx fun ρ M => (f ρ M).bind fun x M1 => if rcv .pop x M1 then (R.ok [] M1).bind fun zs M2 => mtz .pop x zs M2 else .bad) := by
 refine (pe_bm0 (id := "list.pop") PySem.F.plainAttrs_list PySem.F.slot_list_pop PySem.F.type_list_pop mt_pop ho (base_of hp _) hl).imp fun σ H Q hq => ?_
 obtain ⟨ι, ρ, M, rl, e⟩ := hq
 dsimp only at e
 refine ⟨ι, ρ, M, rl, e.step fun z M1 ι1 v1 H1 ex mm d e1 => ?_⟩
 obtain ⟨hc, e1⟩ := ite_step e1
 obtain ⟨n, a, xs, rfl, rfl, hx, h1⟩ := rcv_pop mm d hc
 refine ⟨.inl ⟨rfl, xs, .inl (.inl h1)⟩, ?_⟩
 have e3 : EndG W wx σ ι1 H1 (DenZ W.K) Q (match getL M1 n with
     | some l => match l[l.length - 1]? with
       | some d => .ok (.d d) (M1.set n (.lst l.dropLast))
       | none => .bad
     | none => .bad) := e1
 cases q2 : getL M1 n with
 | none => rw [q2] at e3; exact e3.elim
 | some l =>
   rw [q2] at e3
   obtain ⟨ys, h3, l3⟩ := mm.cell (getL_some q2) hx
   dsimp only at e3
   cases q3 : l[l.length - 1]? with
   | none => rw [q3] at e3; exact e3.elim
   | some y =>
     rw [q3] at e3
     obtain ⟨v, hv, dv⟩ := l3.get q3
     have ext := Ext.wr (o := .lst ys.dropLast) (List.mem_of_getElem? hx) h3 fun _ _ z => nomatch z
     exact ⟨a, ys, v, rfl, rfl, h3, by rw [l3.length]; exact hv, e3 ι1 _ _ ext (mm.wr hx h3 l3.dropLast) (.d (dv.mono ext))⟩
theorem find_at {z : Str} {ss : List Str} {j : Nat} (e : (ss.findIdx? fun y => decide (y = z)) = some j) : ss[j]? = some z ∧ ∀ m, m < j → ss[m]? ≠ some z := by
 obtain ⟨h1, h2, h3⟩ := List.findIdx?_eq_some_iff_getElem.mp e
 refine ⟨by rw [List.getElem?_eq_getElem h1]; exact congrArg some (of_decide_eq_true h2), fun m hm q => ?_⟩
 obtain ⟨l, q⟩ := List.getElem?_eq_some_iff.mp q
 have := h3 m hm
 rw [q] at this
 simp at this
theorem j_gidx (g : GX W G S k h cc X wx) {i : Nat} {x : Str} {y : Expr} {fy : Env → Mem → R Z} {ap p p2 : Pos} (hN : G.gn[i]? = some x) (hv : isGlob cc x = true) (hpn : plainName x = true) (hy : PE X y (tD W S wx fy)) (hn : notStar y = true) (hl : (ap.endLine == p.line) = true) :
   PE X (.Call (.Attribute (.Name x p2) ("index" : Str) ap) [y] [] p) (tD W S wx fun ρ M => match W.gv[i]? with
     | some (.tuple ds) => (fy ρ M).bind fun u M1 => R.of (((dOf u).bind fun y => mtd .index (.tuple ds) [y]).map .d) M1
     | _ => .bad) := by
 obtain ⟨h1, h2, _⟩ := plain_dbg hpn
 obtain ⟨u, v, d, hm, r, hd, den, ht⟩ := g.ok.cons i x hN
 have ho : PE X (.Name x p2) (tC v) := pe_glob (v := v) (g.gl hv) (by rw [g.eM]; exact hm) r h1
 refine (pe_bm (id := "tuple.index") PySem.F.plainAttrs_tuple PySem.F.slot_tuple_index PySem.F.type_tuple_index mt_tup_index ho (pa_cons hy pa_nil (star_of hn)) (base_of rfl _) (few_of (es := [y]) (by simp [hn]) (by simp)) hl (star_of hn) rfl).imp fun σ H Q hq => ?_
 obtain ⟨ι, ρ, M, rl, e⟩ := hq
 dsimp only at e
 rw [hd] at e
 cases d with
 | tuple ds =>
   obtain ⟨a, o, ea, h3, h4, h5⟩ := ht ds rfl
   subst ea
   refine ⟨.inr (.inl ⟨rfl, o, by rw [g.eK]; exact h3, h4, h5⟩), ι, ρ, M, rl, ?_⟩
   have e2 : EndG W wx σ ι H (DenZ W.K) Q ((fy ρ M).bind fun u M1 => R.of (((dOf u).bind fun y => mtd .index (.tuple ds) [y]).map .d) M1) := e
   refine e2.step fun u M2 ι2 v2 H2 ex2 m2 d2 e3 => ?_
   cases d2 with
   | r _ => exact e3.elim
   | f _ => exact e3.elim
   | d d2 =>
         rename_i y'
         obtain ⟨z2, ez, q⟩ := EndG.of (show EndG W wx σ ι2 H2 (DenZ W.K) Q (R.of ((mtd .index (.tuple ds) [y']).map .d) M2) from e3)
         cases d2 with
         | str w =>
           obtain ⟨ss, q3, e4⟩ := Option.bind_eq_some_iff.mp (show (strsOf ds).bind (fun ss => (ss.findIdx? fun y => decide (y = w)).map fun j => PyData.int (j : Nat)) = some z2 from ez)
           obtain ⟨j, e5, e6⟩ := Option.map_eq_some_iff.mp e4
           subst e6
           obtain ⟨f1, f2⟩ := find_at e5
           obtain ⟨a', xs', ea, hb2, hs2, lb2⟩ := (den ι2 H2).tup_inv
           cases ea
           obtain ⟨e7, e8⟩ := lb2.ofStrs q3
           subst e7
           exact ⟨a, ss, w, j, rfl, rfl, by rw [g.eK]; exact hs2, f1, f2, q _ H2 (Ext.refl ι2 H2) m2 (.int _)⟩
         | _ => cases ez
 | _ => exact e.elim
theorem plain_ix {b : Expr} (h : notSlice b = true) : PlainIx b := fun o i => by
 cases b <;> first | rfl | cases h
theorem GX.units {S : Sc} {k : Nat} {h : Bool} {cc : CC} {X : Cx} {wx : WX} (g : GX W G S k h cc X wx) : X.A.units + 65 < cLine := by
 have := g.room.un
 omega
theorem j_sub (g : GX W G S k h cc X wx) {a b : Expr} {fa fb : Env → Mem → R Z} {pos : Pos} (ha : PE X a (tD W S wx fa)) (hb : PE X b (tD W S wx fb)) (hs : notSlice b = true) :
   PE X (.Subscript a b pos) (tD W S wx fun ρ M => (fa ρ M).bind fun x M1 => (fb ρ M1).bind fun y M2 => subz x y M2) := by
 refine (pe_ix (ix_Z g.eW g.eK (by have := g.units; omega)) ha hb (plain_ix hs)).imp fun σ H Q hq => ?_
 obtain ⟨ι, ρ, M, rl, e⟩ := hq
 dsimp only at e
 refine ⟨ι, ρ, M, rl, e.step fun z M1 ι1 v1 H1 ex m d e1 => ⟨ι1, ρ, M1, rl.go ex m, e1.step fun z2 M2 ι2 v2 H2 ex2 m2 d2 e2 => ?_⟩⟩
 exact ⟨ι2, M2, z, z2, wx, σ, m2, d.mono ex2, d2, e2⟩
theorem _root_.L2.PO.imp {X : Cx} {e : Option Expr} {t u : TO} (h : PO X e t) (i : ∀ σ H Q, u σ H Q → t σ H Q) : PO X e u := ⟨fun pins s σ H Q I q => h.run pins s σ H Q I (i σ H Q q)⟩
theorem jo_no : PO X none (tDO W S wx fun _ M => .ok none M) := po_none.imp fun σ H Q hq => by
 obtain ⟨ι, ρ, M, rl, e⟩ := hq
 exact e ι none H (Ext.refl ι H) rl.m rfl
theorem jo_so {a : Expr} {f : Env → Mem → R Z} (ha : PE X a (tD W S wx f)) : PO X (some a) (tDO W S wx fun ρ M => (f ρ M).bind fun x M1 => match x with
   | .d (.int i) => .ok (some i) M1
   | _ => .bad) := (po_some ha).imp fun σ H Q hq => by
 obtain ⟨ι, ρ, M, rl, e⟩ := hq
 dsimp only at e
 refine ⟨ι, ρ, M, rl, e.step fun z M1 ι1 v1 H1 ex m d e1 => ?_⟩
 cases d with
 | r _ => exact e1.elim
 | f _ => exact e1.elim
 | d d =>
   cases d with
   | int i => exact ⟨i, rfl, e1 ι1 _ H1 (Ext.refl ι1 H1) m rfl⟩
   | _ => exact e1.elim
theorem j_slc (g : GX W G S k h cc X wx) {a : Expr} {l u : Option Expr} {fa : Env → Mem → R Z} {fl fu : Env → Mem → R (Option Int)} {pos p2 : Pos} (ha : PE X a (tD W S wx fa)) (hl : PO X l (tDO W S wx fl)) (hu : PO X u (tDO W S wx fu)) :
   PE X (.Subscript a (.Slice l u none p2) pos) (tD W S wx fun ρ M => (fa ρ M).bind fun x M1 => (fl ρ M1).bind fun a M2 => (fu ρ M2).bind fun b M3 => slz x a b M3) := by
 refine (pe_slice (sl_Z g.eK) ha hl hu).imp fun σ H Q hq => ?_
 obtain ⟨ι, ρ, M, rl, e⟩ := hq
 dsimp only at e
 refine ⟨ι, ρ, M, rl, e.step fun z M1 ι1 v1 H1 ex m d e1 => ⟨ι1, ρ, M1, rl.go ex m, e1.step fun o M2 ι2 v2 H2 ex2 m2 d2 e2 => ⟨ι2, ρ, M2, (rl.go ex m).go ex2 m2, e2.step fun o3 M3 ι3 v3 H3 ex3 m3 d3 e3 => ?_⟩⟩⟩
 cases (show v2 = o from d2)
 cases (show v3 = o3 from d3)
 exact ⟨ι3, M3, z, wx, σ, m3, (d.mono ex2).mono ex3, e3⟩
end
end Zt
namespace Zt
open PySem PySem.Spec PyProof.Rows L2
section
variable {W : Wd} {X : Cx}
def RvR (X : Cx) (r : V → Hp → VK → Prop) : Prop :=
 ∀ (pins : List (Addr × Obj)) (s : Shared) (σ : L2.St) (H : Hp) (x : V) (v vl vu vs : Value) (sl : Addr) (Q : VK),
   L2.Inv X pins σ H s → L2.RelV x v → s.heap.IsSliceOf sl vl vu vs → IsPart vl none → IsPart vu none → IsPart vs (some (-1)) → r x H Q →
     ∃ T id, typeLookup (Value.type T) (Str.ofString "__getitem__") = pure (some (Value.builtin id)) ∧ s.TypeIs v T ∧ wpAny (model X.prog X.w) X.A (getItem v (Value.ref sl)) (EP X pins σ Q) X.xe s
theorem pe_rev {r : V → Hp → VK → Prop} (hr : RvR X r) {e : Expr} {te : TE} {k : Nat} {p1 p2 p3 pos : Pos} (he : PE X e te) : PE X (.Subscript e (.Slice none none (some (.UnaryOp .USub (.Constant (.int 1) k p1) p2)) p3) pos) (fun σ H Q => te σ H fun x H1 => r x H1 Q) := by
 refine ⟨fun pins s σ H Q I h => ?_⟩
 refine Subscript_ (thn (he.run pins s σ H _ I h) fun v s1 ⟨x, H1, I1, r1, q1⟩ => ?_)
 have hst : PO X (some (.UnaryOp .USub (.Constant (.int 1) k p1) p2)) (tPart (tUn (rU fun i => .int (-i)) (tC (.int 1)))) := po_some (pe_un un_neg pe_int)
 refine wpAny_Slice (thn (po_none.run pins s1 σ H1 (fun o H2 => o = none ∧ H2 = H1) I1 ⟨rfl, rfl⟩) fun vl s2 ⟨l, H2, I2, pl, el, e2⟩ => ?_)
 subst el e2
 refine thn (po_none.run pins s2 σ H2 (fun o H3 => o = none ∧ H3 = H2) I2 ⟨rfl, rfl⟩) fun vu s3 ⟨u, H3, I3, pu, eu, e3⟩ => ?_
 subst eu e3
 refine thn (hst.run pins s3 σ H3 (fun o H4 => o = some (-1) ∧ H4 = H3) I3 ⟨1, rfl, -1, rfl, rfl, rfl⟩) fun vs s4 ⟨o, H4, I4, ps, eo, e4⟩ => ?_
 subst eo e4
 have I5 : Inv X pins σ H4 { s4 with heap := s4.heap.push { cls := .type "slice", data := .fields #[vl, vu, vs] } } := I4.kept (t' := s4.toks) fun b ob q => Heap.get?_push_of_some _ q
 obtain ⟨T, id, hT, ht, hg⟩ := hr pins _ σ H4 x v vl vu vs s4.heap.objs.size Q I5 r1 (Heap.IsSliceOf.new ..) pl pu ps q1
 show wpAny (model X.prog X.w) X.A (subscriptTail e (.Slice none none (some (.UnaryOp .USub (.Constant (.int 1) k p1) p2)) p3) v (.ref s4.heap.objs.size)) (EP X pins σ Q) X.xe { s4 with heap := s4.heap.push { cls := .type "slice", data := .fields #[vl, vu, vs] } }
 exact tail_any (ops := [v, .ref s4.heap.objs.size]) ht hT hg (by with_unfolding_all rfl)
def rRvL (K : PySem.W.Frag) : V → Hp → VK → Prop := fun x H Q => ∃ a xs, x = .ref a ∧ SqL K H a xs ∧ ∀ p, H p = none → Q (.ref p) (upd H p (.lst xs.reverse))
theorem rv_list : RvR X (rRvL X.K) := by
 intro pins s σ H x v vl vu vs sl Q I rx hs pl pu ps h
 obtain ⟨a, xs, rfl, hx, q⟩ := h
 cases rx
 obtain ⟨its, r, ht, hz⟩ := I.list hx
 have hlen := r.length
 refine ⟨"list", _, slot_list_getitem.lookup, ht.isList.typeIs, ?_⟩
 refine wpAny_getItem_list_slice ht.isList hs pl pu ps (by decide) ?_ (by rw [List.size_toArray]; omega)
 rw [PySem.W.krv_pick]
 refine ⟨.ref _, _, I.laid (t' := s.toks) (o := .lst xs.reverse) (fun b ob q => Heap.get?_push_of_some _ q) (Nat.le_refl _) ?_, rfl, q _ (I.hok.fresh (Nat.le_refl _))⟩
 exact ⟨by rw [List.length_reverse]; exact hz, _, 0, r.reverse, Heap.get?_push_size _ rfl⟩
def revS (x : Str) : Str := ⟨x.cps.toList.reverse.toArray⟩
theorem rev_pick (x : Str) : ((Builtin.Str.strSliceIndices none none (-1) x.length).filterMap (x.cps[·]?)).toArray = x.cps.toList.reverse.toArray := by
 have e : Builtin.Str.strSliceIndices none none (-1) x.length = (List.range x.length).reverse := by
   show sliceRange ((x.length : Int) - 1) (-1) (-1) = _
   rw [PySem.W.krv_sliceRange, PySem.W.krv_range]
 rw [e, List.filterMap_reverse]
 have := PySem.W.krv_all x.cps
 rw [show x.length = x.cps.size from rfl, this]
theorem rev_len (x : Str) : (revS x).length = x.length := by simp [revS, Str.length]
def rRvS : V → Hp → VK → Prop := fun x H Q => ∃ t, x = .str t ∧ t.length ≤ sizeLine ∧ Q (.str (revS t)) H
theorem rv_str : RvR X rRvS := by
 intro pins s σ H x v vl vu vs sl Q I rx hs pl pu ps h
 obtain ⟨z, rfl, hz, q⟩ := h
 obtain ⟨t, rfl⟩ := rx
 obtain ⟨os, hos, hcs, hds⟩ := hs
 cases pl
 cases pu
 cases ps with
 | int _ tk =>
   refine ⟨"str", _, F.slot_str_getitem.lookup, typeIs_str _ _ _, ?_⟩
   refine wpAny_getItem_str_slice (l := none) (u := none) (st := some (-1, tk)) ⟨os, hos, hcs, hds⟩ rfl ?_
   show Made.post (Made.str ⟨((Builtin.Str.strSliceIndices none none (-1) z.length).filterMap (z.cps[·]?)).toArray⟩) _ s
   rw [rev_pick]
   refine ⟨by rw [show (⟨z.cps.toList.reverse.toArray⟩ : Str) = revS z from rfl, rev_len]; exact hz, V.str (revS z), H, ?_, ⟨_, rfl⟩, q⟩
   exact ⟨I.ok, I.os, I.bare, I.base, I.loc, I.cell, I.free, I.freeC, I.pin, I.hok, I.len⟩
end
end Zt
namespace Zt
open PySem PySem.Spec PyProof.Rows L2 HT
section
variable {prog : Program} {w : World} {A : Around} {E : Value → Shared → Prop} {s : Shared}
theorem adjust_rev (n : Nat) : Builtin.Slice.sliceAdjust none none (-1) (n : Int) = ((n : Int) - 1, -1) := by
 unfold Builtin.Slice.sliceAdjust
 simp
theorem places_rev (n : Nat) : Builtin.Slice.slicePlaces ((n : Int) - 1) (-1) (-1) = n := by
 unfold Builtin.Slice.slicePlaces
 have h1 : ¬ ((-1 : Int) > 0) := by omega
 by_cases h : (n : Int) - 1 > -1
 · simp only [h1, if_false, h, if_true]
   rw [show (-(-1) : Int) = 1 by decide, Int.ediv_one]
   omega
 · have e : n = 0 := by omega
   subst e
   simp
theorem applied_rev {sl : Addr} {vl vu vs : Value} {n : Nat} {Q : Int × Int × Nat → Shared → Prop} (hs : s.heap.IsSliceOf sl vl vu vs) (pl : IsPart vl none) (pu : IsPart vu none) (ps : IsPart vs (some (-1)))
   (h : Q ((n : Int) - 1, -1, n) s) : wpAny (model prog w) A (Builtin.Slice.sliceApplied (.ref sl) (pure (n : Int))) Q E s := by
 obtain ⟨os, hos, hcs, hds⟩ := id hs
 unfold Builtin.Slice.sliceApplied Builtin.Slice.sliceFields
 refine wpAny_bind (wpAny_bind (wpAny_field hos hds (x := vl) rfl (wpAny_bind (wpAny_field hos hds (x := vu) rfl (wpAny_bind (wpAny_field hos hds (x := vs) rfl (wpAny_pure ?_)))))))
 refine wpAny_bind (slicePart_ ps ?_)
 show wpAny _ _ (if ((-1 : Int) == 0) = true then _ else _) _ _ s
 rw [if_neg (by decide)]
 refine wpAny_bind (slicePart_ pl (wpAny_bind (slicePart_ pu (wpAny_bind (wpAny_pure ?_)))))
 show wpAny _ _ (match Builtin.Slice.sliceAdjust none none (-1) (n : Int) with | (lo, hi) => pure (lo, (-1 : Int), Builtin.Slice.slicePlaces lo hi (-1))) _ _ s
 rw [adjust_rev n]
 show wpAny _ _ (pure ((n : Int) - 1, (-1 : Int), Builtin.Slice.slicePlaces ((n : Int) - 1) (-1) (-1))) _ _ s
 rw [places_rev]
 exact wpAny_pure h
theorem fm_congr {α β : Type} {f g : α → Option β} : ∀ {l : List α}, (∀ x ∈ l, f x = g x) → l.filterMap f = l.filterMap g
 | [], _ => rfl
 | x :: l, h => by
   rw [List.filterMap_cons, List.filterMap_cons, h x (List.mem_cons_self ..), fm_congr fun y hy => h y (List.mem_cons_of_mem _ hy)]
theorem pick_rev (xs : Array Value) : ((List.range xs.size).filterMap fun (m : Nat) => xs[(((xs.size : Int) - 1) + (m : Int) * (-1)).toNat]?).toArray = xs.toList.reverse.toArray := by
 have e : ((List.range xs.size).filterMap fun (m : Nat) => xs[(((xs.size : Int) - 1) + (m : Int) * (-1)).toNat]?) = ((List.range xs.size).map fun k => xs.size - 1 - k).filterMap (xs[·]?) := by
   rw [List.filterMap_map]
   refine fm_congr fun m hm => ?_
   have := List.mem_range.mp hm
   have e2 : (((xs.size : Int) - 1) + (m : Int) * (-1)).toNat = xs.size - 1 - m := by omega
   rw [e2]
   rfl
 rw [e, PySem.W.krv_range, List.filterMap_reverse, PySem.W.krv_all]
theorem getItem_tuple_rev {t sl : Addr} {items : Array Value} {vl vu vs : Value} {Q : Value → Shared → Prop} (ht : IsTup s.heap t items) (hs : s.heap.IsSliceOf sl vl vu vs) (pl : IsPart vl none) (pu : IsPart vu none) (ps : IsPart vs (some (-1)))
   (h : Q (.ref s.heap.objs.size) { s with heap := s.heap.push { cls := .type "tuple", data := .seq items.toList.reverse.toArray } })
   (hsz : items.size ≤ sizeLine) : wpAny (model prog w) A (getItem (.ref t) (.ref sl)) Q E s := by
 have htake : sizeOk (.seq items.toList.reverse.toArray) := by
   show items.toList.reverse.toArray.size ≤ sizeLine
   rw [List.size_toArray, List.length_reverse, Array.length_toList]
   exact hsz
 obtain ⟨os, hos, hcs, hds⟩ := id hs
 have hTs : s.TypeIs (.ref sl) "slice" := ⟨os, hos, hcs⟩
 unfold getItem
 try with_reducible refine wpAny_holding ?_
 first | refine wpAny_bind (wpAny_pure ?_) | skip
 refine wpAny_bind (wpAny_sequenceKey ht.typeIs (by decide) ?_)
 refine wpAny_bind (wpAny_callSpecial?_slot (name := Str.ofString "__getitem__") ht.typeIs PyProof.Rows.slot_tuple_getitem
   (wpAny_call_entry PyProof.Rows.slot_tuple_getitem ht.typeIs entry_tuple_getitem ?_ (args_tuple_getitem _ _)))
 show wpAny _ _ (Builtin.Tuple.tupleItemsOf (.ref t) >>= _) _ _ s
 refine wpAny_bind (tupleItemsOf_ ht ?_)
 refine wpAny_bind (wpAny_typeOf hTs ?_)
 rw [if_pos (by decide)]
 refine wpAny_bind (applied_rev hs pl pu ps ?_)
 have hno : ¬ ((((items.size : Int) - 1) == 0 && (-1 : Int) == 1 && items.size == items.size) = true) := by
   intro q
   rw [Bool.and_eq_true, Bool.and_eq_true] at q
   exact absurd q.1.2 (by decide)
 show wpAny _ _ (if (((items.size : Int) - 1) == 0 && (-1 : Int) == 1 && items.size == items.size) = true then _ else _) _ _ s
 rw [if_neg hno, pick_rev]
 first
   | exact wpAny_bind (m := Builtin.Tuple.tupleExact _) (wpAny_newObj_type (wpAny_pure ⟨_, rfl, wpAny_pure h⟩) htake)
   | exact wpAny_bind (m := Builtin.Tuple.tupleExact _) (wpAny_newObj_type (wpAny_bind (wpAny_pure (wpAny_pure ⟨_, rfl, wpAny_pure h⟩))) htake)
   | exact wpAny_bind (wpAny_bind (m := Builtin.Tuple.tupleExact _) (wpAny_newObj_type (wpAny_pure (wpAny_pure ⟨_, rfl, wpAny_pure h⟩)) htake))
   | exact wpAny_bind (wpAny_bind (m := Builtin.Tuple.tupleExact _) (wpAny_newObj_type (wpAny_pure ⟨_, rfl, wpAny_pure h⟩) htake))
end
section
variable {X : Cx}
def rRvT (K : PySem.W.Frag) : V → Hp → VK → Prop := fun x H Q => ∃ a xs, x = .ref a ∧ SqT K H a xs ∧ ∀ p, H p = none → Q (.ref p) (upd H p (.tup xs.reverse))
theorem rv_tup : RvR X (rRvT X.K) := by
 intro pins s σ H x v vl vu vs sl Q I rx hs pl pu ps h
 obtain ⟨a, xs, rfl, hx, q⟩ := h
 cases rx
 obtain ⟨its, r, ht, hz⟩ := I.tuple hx
 have hlen := r.length
 refine ⟨"tuple", _, PyProof.Rows.slot_tuple_getitem.lookup, ht.typeIs, ?_⟩
 refine getItem_tuple_rev ht hs pl pu ps ?_ (by rw [List.size_toArray]; omega)
 refine ⟨.ref s.heap.objs.size, _, I.laid (t' := s.toks) (o := .tup xs.reverse) (fun b ob q => Heap.get?_push_of_some _ q) (Nat.le_refl _) ?_, rfl, q _ (I.hok.fresh (Nat.le_refl _))⟩
 exact ⟨by rw [List.length_reverse]; exact hz, _, r.reverse, IsTup.new _ _⟩
end
end Zt
namespace Zt
open PySem PySem.Spec PyProof.Rows L2
section
variable {W : Wd} {X : Cx}
def rvz (x : Z) (M : Mem) : R Z := match x with
 | .d d => R.of ((revD d).map .d) M
 | _ => .bad
def rRvZ (W : Wd) : V → Hp → VK → Prop := fun x H Q => ∃ ι M a wx σ, MI W ι H M ∧ DenZ W.K ι H x a ∧ EndG W wx σ ι H (DenZ W.K) Q (rvz a M)
theorem rv_Z (hK : X.K = W.K) : RvR X (rRvZ W) := by
 intro pins s σ H x v vl vu vs sl Q I rx hs pl pu ps h
 obtain ⟨ι, M, a, wx, σ', m, dx, e⟩ := h
 cases dx with
 | r _ => exact e.elim
 | f _ => exact e.elim
 | d dx =>
   rename_i d
   have e : EndG W wx σ' ι H (DenZ W.K) Q (R.of ((revD d).map .d) M) := e
   obtain ⟨z, ez, q⟩ := EndG.of e
   cases dx with
   | lst h1 l1 =>
     cases ez
     exact rv_list pins s σ H _ v vl vu vs sl Q I rx hs pl pu ps ⟨_, _, rfl, .inl (.inl h1.2), fun p hp => q _ _ (Ext.new hp) (m.new hp) (.newL m.has hp l1.reverse)⟩
   | tup h1 l1 =>
     cases ez
     exact rv_tup pins s σ H _ v vl vu vs sl Q I rx hs pl pu ps ⟨_, _, rfl, by rw [hK]; exact h1.imp (fun z => .inl z.2) And.left, fun p hp => q _ _ (Ext.new hp) (m.new hp) (.newT m.has hp l1.reverse)⟩
   | str t =>
     simp only [revD] at ez
     split at ez
     · rename_i hl
       cases ez
       exact rv_str pins s σ H _ v vl vu vs sl Q I rx hs pl pu ps ⟨t, rfl, sl_of hl, q _ H (Ext.refl ι H) m (.str _)⟩
     · cases ez
   | _ => cases ez
end
section
variable {W : Wd} {G : Stat} {S : Sc} {k : Nat} {h : Bool} {cc : CC} {X : Cx} {wx : WX}
theorem j_rev (g : GX W G S k h cc X wx) {a : Expr} {fa : Env → Mem → R Z} {kk : Nat} {p1 p2 p3 pos : Pos} (ha : PE X a (tD W S wx fa)) :
   PE X (.Subscript a (.Slice none none (some (.UnaryOp .USub (.Constant (.int 1) kk p1) p2)) p3) pos) (tD W S wx fun ρ M => (fa ρ M).bind fun x M1 => rvz x M1) := by
 refine (pe_rev (rv_Z g.eK) ha).imp fun σ H Q hq => ?_
 obtain ⟨ι, ρ, M, rl, e⟩ := hq
 dsimp only at e
 exact ⟨ι, ρ, M, rl, e.step fun z M1 ι1 v1 H1 ex m d e1 => ⟨ι1, M1, z, wx, σ, m, d, e1⟩⟩
end
end Zt
namespace Hh
open PySem PySem.Spec PyProof.Rows L2 HotX
section
variable {prog : Program} {w : World} {A : Around} {E : Value → Shared → Prop} {s : Shared}
theorem parts_hot {t x1 : Addr} {items : Array Value} {Q : List Value → Shared → Prop} (hot : HotAt A x1 s.heap) (ht : IsTup s.heap t items)
   (hQ : ∀ g, (∀ b o, b ≠ s.heap.objs.size → s.heap.get? b = some o → g.get? b = some o) → Q items.toList { s with heap := g }) : wpAny (model prog w) A (unpackItems (.ref t) items.size none) Q E s := by
 have hlt : t ≠ s.heap.objs.size := by obtain ⟨o, ho, _⟩ := ht; exact Nat.ne_of_lt (Heap.lt_size ho)
 have hx : x1 ≠ s.heap.objs.size := by obtain ⟨_, o, vs, ho, _⟩ := hot; exact Nat.ne_of_lt (Heap.lt_size ho)
 unfold unpackItems
 refine wpAny_bind ?_
 unfold notIterableAtAll
 refine wpAny_bind (wpAny_specialOf ht.typeIs slot_tuple_iter.lookup ?_)
 refine wpAny_pure ?_
 simp only [Bool.false_eq_true, if_false]
 refine wpAny_bind (wpAny_holding (iter_tuple ht ?_))
 refine wpAny_bind (wpAny_holding (draw_tuple hlt items.size 0 _ _ ⟨_, Heap.get?_push_size _ rfl, rfl, rfl⟩ (ht.push _) (by omega) fun g1 hi1 sb1 => ?_))
 rw [show List.take items.size (List.drop 0 items.toList) = items.toList by rw [List.drop_zero]; exact List.take_of_length_le (by simp)]
 rw [if_neg (by simp)]
 have k1 : ∀ b o, b ≠ s.heap.objs.size → s.heap.get? b = some o → g1.get? b = some o := fun b o hb q => sb1.extBut b o hb (Heap.get?_push_of_some _ q)
 have ht1 : IsTup g1 t items := (ht.push _).extBut sb1.extBut hlt
 refine wpAny_bind (wpAny_holding (tuple_stop (x1 := x1) (hot_keep hot hx k1) hx hi1 ht1 (by simp) fun g2 k2 => ?_))
 simp only [Option.isSome_none, Bool.false_eq_true, if_false]
 exact wpAny_pure (hQ g2 fun b o hb q => k2 b o hb (k1 b o hb q))
theorem assign_hot {env : PySem.Env} {elts : List Expr} {k : Nat} {pos : Pos} {t x1 : Addr} {items : Array Value} {Q : Unit → Shared → Prop} (hot : HotAt A x1 s.heap) (ht : IsTup s.heap t items)
   (hn : (assignEach elts env).length = items.size) (hs : (assignEach elts env).findIdx? (·.1) = none)
   (hq : ∀ g, (∀ b o, b ≠ s.heap.objs.size → s.heap.get? b = some o → g.get? b = some o) → wpAny (model prog w) A (assignInOrder ((assignEach elts env).map (·.2)) items.toList) Q E { s with heap := g }) :
   wpAny (model prog w) A (assign (.Tuple elts k pos) env (.ref t)) Q E s := by
 rw [PyProof.Rows.assign_Tuple]
 refine wpAny_bind (wpAny_standAt ?_)
 unfold unpack
 rw [hn, hs]
 exact wpAny_bind (wpAny_holding (parts_hot hot ht hq))
end
end Hh
namespace Hh
open PySem PySem.Spec PyProof.Rows L2 HotX
def Wk (c : Bool) (h : Heap) (it l : Addr) (i : Nat) : Prop := if c then h.IsTupleIter it l i else h.IsListIter it l i
def Sq (c : Bool) (h : Heap) (l : Addr) (xs : Array Value) : Prop := if c then h.IsTuple l xs else h.IsList l xs
theorem Wk.keep {c : Bool} {h h' : Heap} {it l : Addr} {i : Nat} (x : Wk c h it l i) (k : ∀ o, h.get? it = some o → h'.get? it = some o) : Wk c h' it l i := by
 cases c with
 | true => exact Heap.IsTupleIter.at (show h.IsTupleIter it l i from x) k
 | false => exact Heap.IsListIter.at (show h.IsListIter it l i from x) k
theorem Sq.keep {c : Bool} {h h' : Heap} {l : Addr} {xs : Array Value} (x : Sq c h l xs) (k : ∀ o, h.get? l = some o → h'.get? l = some o) : Sq c h' l xs := by
 cases c with
 | true =>
   obtain ⟨o, e, r⟩ := (show h.IsTuple l xs from x)
   exact ⟨o, k o e, r⟩
 | false =>
   obtain ⟨o, e, r⟩ := (show h.IsList l xs from x)
   exact ⟨o, k o e, r⟩
theorem Wk.lt {c : Bool} {h : Heap} {it l : Addr} {i : Nat} (x : Wk c h it l i) : it < h.objs.size := by
 cases c with
 | true => obtain ⟨o, e, _⟩ := (show h.IsTupleIter it l i from x); exact Heap.lt_size e
 | false => obtain ⟨o, e, _⟩ := (show h.IsListIter it l i from x); exact Heap.lt_size e
def Plc (A : Around) (h : Heap) (off : List Addr) : Prop := A.handled = none ∨ ∃ x1, HotAt A x1 h ∧ x1 ∉ off
theorem Plc.keep {A : Around} {h h' : Heap} {off : List Addr} (p : Plc A h off) (k : ∀ b o, b ∉ off → h.get? b = some o → h'.get? b = some o) : Plc A h' off := by
 rcases p with p | ⟨x1, ⟨a, o, vs, b, c⟩, n⟩
 · exact .inl p
 · exact .inr ⟨x1, ⟨a, o, vs, k x1 o n b, c⟩, n⟩
section
variable {prog : Program} {w : World} {A : Around} {E : Value → Shared → Prop} {s : Shared}
theorem nx_item {c : Bool} {it l : Addr} {i : Nat} {xs : Array Value} {x : Value} {Q : Value → Shared → Prop} (a : Wk c s.heap it l i) (b : Sq c s.heap l xs) (e : xs[i]? = some x) (hQ : ∀ g, Wk c g it l (i + 1) → Heap.SameBut it s.heap g → Q x { s with heap := g }) :
   wpAny (model prog w) A (Builtin.SmallTypes.nextOf (.ref it)) Q E s := by
 cases c with
 | true => exact RZ.nextOf_tuple_item (show s.heap.IsTupleIter it l i from a) (show s.heap.IsTuple l xs from b) e fun g h1 h2 => hQ g h1 h2
 | false => exact wpAny_nextOf_list_item (show s.heap.IsListIter it l i from a) (show s.heap.IsList l xs from b) e fun g h1 h2 => hQ g h1 h2
theorem nx_stop {c : Bool} {it l : Addr} {i : Nat} {xs : Array Value} {Q : Value → Shared → Prop} {off : List Addr} (p : Plc A s.heap off) (ho : it ∈ off) (a : Wk c s.heap it l i) (b : Sq c s.heap l xs) (e : xs[i]? = none)
   (hE : ∀ g x, (∀ b o, b ≠ it → s.heap.get? b = some o → g.get? b = some o) → (∃ o, g.get? x = some o ∧ o.cls = .type "StopIteration") → E (.ref x) { s with heap := g }) : wpAny (model prog w) A (Builtin.SmallTypes.nextOf (.ref it)) Q E s := by
 rcases p with p | ⟨x1, hot, nx⟩
 · cases c with
   | true => exact RZ.nextOf_tuple_end p (show s.heap.IsTupleIter it l i from a) (show s.heap.IsTuple l xs from b) e fun g x h1 h2 => hE g x h1 h2
   | false => exact wpAny_nextOf_list_end p (show s.heap.IsListIter it l i from a) (show s.heap.IsList l xs from b) e fun g x h1 h2 => hE g x h1 h2
 · have hx : x1 ≠ it := fun z => nx (by rw [z]; exact ho)
   cases c with
   | true =>
     obtain ⟨ob, hob, hcl, hda⟩ := id (show s.heap.IsTupleIter it l i from a)
     obtain ⟨ol, hol, _, nn, hdl⟩ := (show s.heap.IsTuple l xs from b)
     have ty := Heap.IsTupleIter.typeIs (show s.heap.IsTupleIter it l i from a)
     unfold Builtin.SmallTypes.nextOf
     refine wpAny_bind (wpAny_callSpecial?_slot (name := Str.ofString "__next__") ty F.slot_tuple_iterator_next (wpAny_call_entry F.slot_tuple_iterator_next ty F.entry_tuple_iterator_next ?_ (F.args_tuple_iterator_next_1 _)))
     show wpAny _ _ (field (.ref it) 0 >>= _) _ _ s
     refine wpAny_bind (wpAny_field hob hda (x := .ref l) rfl ?_)
     show wpAny _ _ (if (Value.ref l == Value.none) = true then _ else _) _ _ s
     rw [if_neg (show ¬ ((Value.ref l == Value.none) = true) from Bool.false_ne_true)]
     show wpAny _ _ (field (.ref it) 1 >>= _) _ _ s
     refine wpAny_bind (wpAny_field hob hda (x := .int i 0) rfl ?_)
     show wpAny _ _ (seqItems? (.ref l) >>= _) _ _ s
     refine wpAny_bind (wpAny_seqItems hol hdl ?_)
     simp only [Int.toNat_natCast, e]
     refine wpAny_bind (wpAny_rule (wpAny_bind (wpAny_setField hob hda (by simp) ?_)))
     exact stopped (x1 := x1) (hot_keep (A := A) hot hx (Heap.SameBut.update ..).extBut) fun g y kp he => hE g y (fun b o hb q => kp b o ((Heap.SameBut.update ..).extBut b o hb q)) he
   | false =>
     obtain ⟨ob, hob, hcl, hda⟩ := id (show s.heap.IsListIter it l i from a)
     obtain ⟨ol, hol, _, nn, hdl⟩ := (show s.heap.IsList l xs from b)
     have ty := Heap.IsListIter.typeIs (show s.heap.IsListIter it l i from a)
     unfold Builtin.SmallTypes.nextOf
     refine wpAny_bind (wpAny_callSpecial?_slot (name := Str.ofString "__next__") ty slot_listiter_next (wpAny_call_entry slot_listiter_next ty entry_listiter_next ?_ (args_listiter_next _)))
     show wpAny _ _ (field (.ref it) 0 >>= _) _ _ s
     refine wpAny_bind (wpAny_field hob hda (x := .ref l) rfl ?_)
     show wpAny _ _ (if (Value.ref l == Value.none) = true then _ else _) _ _ s
     rw [if_neg (show ¬ ((Value.ref l == Value.none) = true) from Bool.false_ne_true)]
     show wpAny _ _ (field (.ref it) 1 >>= _) _ _ s
     refine wpAny_bind (wpAny_field hob hda (x := .int i 0) rfl ?_)
     show wpAny _ _ (seqItems? (.ref l) >>= _) _ _ s
     refine wpAny_bind (wpAny_seqItems hol hdl ?_)
     simp only [Int.toNat_natCast, e]
     refine wpAny_bind (wpAny_rule (wpAny_bind (wpAny_setField hob hda (by simp) ?_)))
     exact stopped (x1 := x1) (hot_keep (A := A) hot hx (Heap.SameBut.update ..).extBut) fun g y kp he => hE g y (fun b o hb q => kp b o ((Heap.SameBut.update ..).extBut b o hb q)) he
end
end Hh
namespace Hh
open PySem PySem.Spec PyProof.Rows L2 HotX
section
variable {prog : Program} {w : World} {A : Around} {E : Value → Shared → Prop} {s : Shared}
structure Zs (c d : Bool) (h : Heap) (z TI TO i1 i2 l1 l2 : Addr) (k1 k2 : Nat) (xs ys : Array Value) : Prop where
 hz : IsZip h z TI TO .none
 hI : IsPair h TI (.ref i1) (.ref i2)
 hO : ∃ a b, IsPair h TO a b
 w1 : Wk c h i1 l1 k1
 w2 : Wk d h i2 l2 k2
 q1 : Sq c h l1 xs
 q2 : Sq d h l2 ys
theorem kp {it : Addr} {h h' : Heap} (x : Heap.SameBut it h h') {b : Addr} {o : Obj} (n : b ≠ it) (e : h.get? b = some o) : h'.get? b = some o := x.extBut b o n e
theorem zip_item {c d : Bool} {z TI TO i1 i2 l1 l2 : Addr} {k1 k2 : Nat} {xs ys : Array Value} {x y : Value} {Q : Option Value → Shared → Prop} (D : ZipApart z TI TO i1 i2 l1 l2) (Z : Zs c d s.heap z TI TO i1 i2 l1 l2 k1 k2 xs ys) (ex : xs[k1]? = some x) (ey : ys[k2]? = some y)
   (hQ : ∀ g, IsZip g z TI TO (rawInt s.heap.objs.size) → (∃ a b, IsPair g TO a b) → Wk c g i1 l1 (k1 + 1) → Wk d g i2 l2 (k2 + 1) → IsPair g s.heap.objs.size x y →
     (∀ b o, b ≠ z → b ≠ TO → b ≠ i1 → b ≠ i2 → s.heap.get? b = some o → g.get? b = some o) → Q (some (.ref s.heap.objs.size)) { s with heap := g }) : wpAny (model prog w) A (pyNext (.ref z)) Q E s := by
 obtain ⟨hz, hI, ⟨a, b, hO⟩, w1, w2, q1, q2⟩ := Z
 have ty : s.TypeIs (.ref z) "zip" := ⟨_, hz, rfl⟩
 unfold pyNext
 refine wpAny_bind (wpAny_attempt (wpAny_callSpecial?_slot (name := Str.ofString "__next__") ty F.slot_zip_next (wpAny_call_entry F.slot_zip_next ty F.entry_zip_next ?_ (F.args_zip_next_1 _))))
 show wpAny _ _ (field (.ref z) 2 >>= _) _ _ _
 refine wpAny_bind (wpAny_field hz rfl (x := .bool false) rfl ?_)
 show wpAny _ _ (field (.ref z) 3 >>= _) _ _ _
 refine wpAny_bind (wpAny_field hz rfl (x := .ref TI) rfl (wpAny_bind (wpAny_seqItems hI rfl ?_)))
 show wpAny _ _ (Builtin.SmallTypes.ownedTupleIsFree (.ref z) >>= _) _ _ _
 refine wpAny_bind ?_
 unfold Builtin.SmallTypes.ownedTupleIsFree
 refine wpAny_bind (wpAny_field hz rfl (x := .none) rfl (wpAny_pure ?_))
 simp only [if_true]
 refine wpAny_bind (wpAny_rule (wpAny_bind (wpAny_field hz rfl (x := .ref TO) rfl (wpAny_bind (wpAny_setField_rec hz (by simp) fun g1 z1 s1 => ?_)))))
 replace z1 : IsZip g1 z TI TO .ellipsis := z1
 refine wpAny_bind ?_
 simp only [List.zipIdx_cons, List.zipIdx_nil, List.forIn_cons, List.forIn_nil]
 refine wpAny_bind (wpAny_bind (wpAny_onRaise ?_))
 show wpAny _ _ (Builtin.SmallTypes.nextOf (.ref i1) >>= _) _ _ _
 refine wpAny_bind (nx_item (c := c) (w1.keep fun o q => kp s1 D.i1z q) (q1.keep fun o q => kp s1 D.l1z q) ex fun g2 w12 s2 => wpAny_pure ?_)
 have o2 : IsPair g2 TO a b := kp s2 D.TOi1 (kp s1 D.TOz hO)
 refine wpAny_bind (wpAny_seqItems o2 rfl (wpAny_bind (wpAny_updateSeq_pair o2 fun g3 o3 s3 => ?_)))
 replace o3 : IsPair g3 TO x b := o3
 refine wpAny_bind (wpAny_letGo (wpAny_pure ?_))
 refine wpAny_bind (wpAny_bind (wpAny_onRaise ?_))
 show wpAny _ _ (Builtin.SmallTypes.nextOf (.ref i2) >>= _) _ _ _
 refine wpAny_bind (nx_item (c := d) (w2.keep fun o q => kp s3 D.TOi2.symm (kp s2 D.i12.symm (kp s1 D.i2z q))) (q2.keep fun o q => kp s3 D.l2TO (kp s2 D.l2i1 (kp s1 D.l2z q))) ey fun g4 w24 s4 => wpAny_pure ?_)
 have o4 : IsPair g4 TO x b := kp s4 D.TOi2 o3
 refine wpAny_bind (wpAny_seqItems o4 rfl (wpAny_bind (wpAny_updateSeq_pair o4 fun g5 o5 s5 => ?_)))
 replace o5 : IsPair g5 TO x y := o5
 refine wpAny_bind (wpAny_letGo (wpAny_pure (wpAny_pure ?_)))
 refine wpAny_bind (wpAny_seqItems o5 rfl (wpAny_bind (wpAny_newTuple ?_)))
 have n5 : g5.objs.size = s.heap.objs.size := by rw [s5.1, s4.1, s3.1, s2.1, s1.1]
 have k5 : ∀ b o, b ≠ z → b ≠ TO → b ≠ i1 → b ≠ i2 → s.heap.get? b = some o → g5.get? b = some o := fun b o h1 h2 h3 h4 q => kp s5 h2 (kp s4 h4 (kp s3 h2 (kp s2 h3 (kp s1 h1 q))))
 have z5 : IsZip g5 z TI TO .ellipsis := kp s5 D.TOz.symm (kp s4 D.i2z.symm (kp s3 D.TOz.symm (kp s2 D.i1z.symm z1)))
 have w15 : Wk c g5 i1 l1 (k1 + 1) := w12.keep fun o q => kp s5 D.TOi1.symm (kp s4 D.i12 (kp s3 D.TOi1.symm q))
 have w25 : Wk d g5 i2 l2 (k2 + 1) := w24.keep fun o q => kp s5 D.TOi2.symm q
 have zl : z < g5.objs.size := Heap.lt_size z5
 show wpAny _ _ (Builtin.SmallTypes.ownedTupleHandOut (.ref z) (.ref g5.objs.size) >>= _) _ _ _
 refine wpAny_bind ?_
 unfold Builtin.SmallTypes.ownedTupleHandOut
 have z6 : IsZip (g5.push { cls := .type "tuple", data := .seq #[x, y] }) z TI TO .ellipsis := Heap.get?_push_of_some _ z5
 refine wpAny_bind (wpAny_setField_rec z6 (by simp) fun g7 z7 s7 => ?_)
 replace z7 : IsZip g7 z TI TO (rawInt g5.objs.size) := z7
 refine wpAny_setField_rec z7 (by simp) fun g8 z8 s8 => ?_
 replace z8 : IsZip g8 z TI TO (rawInt g5.objs.size) := z8
 have up : ∀ {b o}, b ≠ z → g5.get? b = some o → g8.get? b = some o := fun n q => kp s8 n (kp s7 n (Heap.get?_push_of_some _ q))
 have t8 : IsPair g8 g5.objs.size x y := kp s8 (Nat.ne_of_gt zl) (kp s7 (Nat.ne_of_gt zl) (Heap.get?_push_size _ rfl))
 rw [n5] at z8 t8
 refine wpAny_pure ⟨_, rfl, wpAny_pure ?_⟩
 show Q (some (.ref g5.objs.size)) _
 rw [n5]
 exact hQ g8 z8 ⟨x, y, up D.TOz o5⟩ (w15.keep fun o q => up D.i1z q) (w25.keep fun o q => up D.i2z q) t8 fun b o h1 h2 h3 h4 q => up h1 (k5 b o h1 h2 h3 h4 q)
theorem zip_stop {c d : Bool} {z TI TO i1 i2 l1 l2 : Addr} {k1 k2 : Nat} {xs ys : Array Value} {Q : Option Value → Shared → Prop} (p : Plc A s.heap [z, TI, TO, i1, i2]) (D : ZipApart z TI TO i1 i2 l1 l2) (Z : Zs c d s.heap z TI TO i1 i2 l1 l2 k1 k2 xs ys) (ee : xs[k1]? = none ∨ ys[k2]? = none)
   (hQ : ∀ g, (∀ b o, b ≠ z → b ≠ TO → b ≠ i1 → b ≠ i2 → s.heap.get? b = some o → g.get? b = some o) → Q none { s with heap := g }) : wpAny (model prog w) A (pyNext (.ref z)) Q E s := by
 obtain ⟨hz, hI, ⟨a, b, hO⟩, w1, w2, q1, q2⟩ := Z
 have ty : s.TypeIs (.ref z) "zip" := ⟨_, hz, rfl⟩
 have p : Plc A.in1 s.heap [z, TI, TO, i1, i2] := p
 unfold pyNext
 refine wpAny_bind (wpAny_attempt (wpAny_callSpecial?_slot (name := Str.ofString "__next__") ty F.slot_zip_next (wpAny_call_entry F.slot_zip_next ty F.entry_zip_next ?_ (F.args_zip_next_1 _))))
 have fin : ∀ g x, (∀ b o, b ≠ z → b ≠ TO → b ≠ i1 → b ≠ i2 → s.heap.get? b = some o → g.get? b = some o) → (∃ o, g.get? x = some o ∧ o.cls = .type "StopIteration") →
     wpAny (model prog w) A (do if ← isInstance (.ref x) (.type "StopIteration") then pure none else throw (.ref x)) Q E { s with heap := g } := fun g x k ⟨o, ho, hc⟩ =>
   wpAny_bind (wpAny_isInstance (T := "StopIteration") (b := true) ⟨o, ho, hc⟩ isSubtype_stop (wpAny_pure (hQ g k)))
 show wpAny _ _ (field (.ref z) 2 >>= _) _ _ _
 refine wpAny_bind (wpAny_field hz rfl (x := .bool false) rfl ?_)
 show wpAny _ _ (field (.ref z) 3 >>= _) _ _ _
 refine wpAny_bind (wpAny_field hz rfl (x := .ref TI) rfl (wpAny_bind (wpAny_seqItems hI rfl ?_)))
 show wpAny _ _ (Builtin.SmallTypes.ownedTupleIsFree (.ref z) >>= _) _ _ _
 refine wpAny_bind ?_
 unfold Builtin.SmallTypes.ownedTupleIsFree
 refine wpAny_bind (wpAny_field hz rfl (x := .none) rfl (wpAny_pure ?_))
 simp only [if_true]
 refine wpAny_bind (wpAny_rule (wpAny_bind (wpAny_field hz rfl (x := .ref TO) rfl (wpAny_bind (wpAny_setField_rec hz (by simp) fun g1 z1 s1 => ?_)))))
 replace z1 : IsZip g1 z TI TO .ellipsis := z1
 have p1 : Plc A.in1 g1 [z, TI, TO, i1, i2] := p.keep fun b o n q => kp s1 (fun e => n (by simp [e])) q
 refine wpAny_bind ?_
 simp only [List.zipIdx_cons, List.zipIdx_nil, List.forIn_cons, List.forIn_nil]
 refine wpAny_bind (wpAny_bind (wpAny_onRaise ?_))
 show wpAny _ _ (Builtin.SmallTypes.nextOf (.ref i1) >>= _) _ _ _
 cases ex : xs[k1]? with
 | none =>
   refine wpAny_bind (nx_stop (c := c) p1 (by simp) (w1.keep fun o q => kp s1 D.i1z q) (q1.keep fun o q => kp s1 D.l1z q) ex fun g2 x s2 he => ?_)
   obtain ⟨oe, ho, hc⟩ := he
   have z2 : IsZip g2 z TI TO .ellipsis := s2 _ _ D.i1z.symm z1
   have nz : x ≠ z := fun e => by
     rw [e, z2] at ho
     cases ho
     exact absurd hc (by simp)
   exact wpAny_setField_rec z2 (by simp) fun g3 _ s3 => fin g3 x (fun b o h1 _ h3 _ q => kp s3 h1 (s2 _ _ h3 (kp s1 h1 q))) ⟨oe, kp s3 nz ho, hc⟩
 | some x0 =>
   have ey : ys[k2]? = none := by
     rcases ee with e | e
     · rw [ex] at e; cases e
     · exact e
   refine wpAny_bind (nx_item (c := c) (w1.keep fun o q => kp s1 D.i1z q) (q1.keep fun o q => kp s1 D.l1z q) ex fun g2 w12 s2 => wpAny_pure ?_)
   have o2 : IsPair g2 TO a b := kp s2 D.TOi1 (kp s1 D.TOz hO)
   refine wpAny_bind (wpAny_seqItems o2 rfl (wpAny_bind (wpAny_updateSeq_pair o2 fun g3 o3 s3 => ?_)))
   have p3 : Plc A.in1 g3 [z, TI, TO, i1, i2] := (p1.keep fun b o n q => kp s2 (fun e => n (by simp [e])) q).keep fun b o n q => kp s3 (fun e => n (by simp [e])) q
   refine wpAny_bind (wpAny_letGo (wpAny_pure ?_))
   refine wpAny_bind (wpAny_bind (wpAny_onRaise ?_))
   show wpAny _ _ (Builtin.SmallTypes.nextOf (.ref i2) >>= _) _ _ _
   refine wpAny_bind (nx_stop (c := d) p3 (by simp) (w2.keep fun o q => kp s3 D.TOi2.symm (kp s2 D.i12.symm (kp s1 D.i2z q))) (q2.keep fun o q => kp s3 D.l2TO (kp s2 D.l2i1 (kp s1 D.l2z q))) ey fun g4 x s4 he => ?_)
   obtain ⟨oe, ho, hc⟩ := he
   have z4 : IsZip g4 z TI TO .ellipsis := s4 _ _ D.i2z.symm (kp s3 D.TOz.symm (kp s2 D.i1z.symm z1))
   have nz : x ≠ z := fun e => by
     rw [e, z4] at ho
     cases ho
     exact absurd hc (by simp)
   exact wpAny_setField_rec z4 (by simp) fun g5 _ s5 => fin g5 x (fun b o h1 h2 h3 h4 q => kp s5 h1 (s4 _ _ h4 (kp s3 h2 (kp s2 h3 (kp s1 h1 q))))) ⟨oe, kp s5 nz ho, hc⟩
end
end Hh
namespace Hh
open PySem PySem.Spec PyProof.Rows L2 HotX
def itn (c : Bool) : String := if c then "tuple_iterator" else "list_iterator"
abbrev zA (c : Bool) (h : Heap) (l1 : Addr) : Heap := h.push { cls := .type (itn c), data := .fields #[.ref l1, .int 0 0] }
abbrev zB (c d : Bool) (h : Heap) (l1 l2 : Addr) : Heap := zA d (zA c h l1) l2
abbrev zC (c d : Bool) (h : Heap) (l1 l2 : Addr) : Heap := (zB c d h l1 l2).push { cls := .type "tuple", data := .seq #[.ref h.objs.size, .ref (zA c h l1).objs.size] }
abbrev zD (c d : Bool) (h : Heap) (l1 l2 : Addr) : Heap := (zC c d h l1 l2).push { cls := .type "tuple", data := .seq #[.none, .none] }
abbrev zE (c d : Bool) (h : Heap) (l1 l2 : Addr) : Heap := (zD c d h l1 l2).push { cls := .type "zip", data := .fields #[.none, .bool false, .bool false, .ref (zB c d h l1 l2).objs.size, .ref (zC c d h l1 l2).objs.size] }
set_option maxHeartbeats 4000000
theorem meets_lt (l1 l2 : Addr) (xs ys : Array Value) :
   Meets (Builtin.«zip.__new__» ⟨[.type "zip", .ref l1, .ref l2], []⟩) (fun _ R s => s.heap.IsList l1 xs ∧ s.heap.IsTuple l2 ys ∧
     R (.ok (.ret (.ref (zD false true s.heap l1 l2).objs.size))) { s with heap := zE false true s.heap l1 l2 }) :=
 .of_wp fun prog w A R s h => by
   obtain ⟨hp, g, dr, tk, os⟩ := s
   obtain ⟨h1, h2, h⟩ := h
   have hs := sub_zip
   have a1 : Heap.IsList (Shared.heap ⟨hp, g, dr, tk, os⟩) l1 xs := h1
   have a2 : Heap.IsTuple (Shared.heap ⟨hp.push { cls := .type "list_iterator", data := .fields #[.ref l1, .int 0 0] }, g, dr, tk, os⟩) l2 ys := Heap.IsTuple.push h2 _
   wp_walk using wpAny_pyIter_list a1, wpAny_pyIter_tuple a2
   exact ⟨_, rfl, h⟩
theorem meets_tl (l1 l2 : Addr) (xs ys : Array Value) :
   Meets (Builtin.«zip.__new__» ⟨[.type "zip", .ref l1, .ref l2], []⟩) (fun _ R s => s.heap.IsTuple l1 xs ∧ s.heap.IsList l2 ys ∧
     R (.ok (.ret (.ref (zD true false s.heap l1 l2).objs.size))) { s with heap := zE true false s.heap l1 l2 }) :=
 .of_wp fun prog w A R s h => by
   obtain ⟨hp, g, dr, tk, os⟩ := s
   obtain ⟨h1, h2, h⟩ := h
   have hs := sub_zip
   have a1 : Heap.IsTuple (Shared.heap ⟨hp, g, dr, tk, os⟩) l1 xs := h1
   have a2 : Heap.IsList (Shared.heap ⟨hp.push { cls := .type "tuple_iterator", data := .fields #[.ref l1, .int 0 0] }, g, dr, tk, os⟩) l2 ys := Heap.IsList.push h2 _
   wp_walk using wpAny_pyIter_tuple a1, wpAny_pyIter_list a2
   exact ⟨_, rfl, h⟩
theorem meets_new (c d : Bool) (l1 l2 : Addr) (xs ys : Array Value) :
   Meets (Builtin.«zip.__new__» ⟨[.type "zip", .ref l1, .ref l2], []⟩) (fun _ R s => Sq c s.heap l1 xs ∧ Sq d s.heap l2 ys ∧ R (.ok (.ret (.ref (zD c d s.heap l1 l2).objs.size))) { s with heap := zE c d s.heap l1 l2 }) := by
 cases c <;> cases d
 · exact meets_zip_new l1 l2 xs ys
 · exact meets_lt l1 l2 xs ys
 · exact meets_tl l1 l2 xs ys
 · exact RZ.meets_zipT_new l1 l2 xs ys
theorem wk_new {c : Bool} {h : Heap} {it l : Addr} (e : h.get? it = some { cls := .type (itn c), data := .fields #[.ref l, .int 0 0] }) : Wk c h it l 0 := by
 cases c with
 | true => exact ⟨_, e, rfl, rfl⟩
 | false => exact ⟨_, e, rfl, rfl⟩
section
variable {prog : Program} {w : World} {A : Around} {E : Value → Shared → Prop} {s : Shared}
theorem zip_made {c d : Bool} {l1 l2 : Addr} {xs ys : Array Value} {Q : Value → Shared → Prop} (h1 : Sq c s.heap l1 xs) (h2 : Sq d s.heap l2 ys)
   (hq : ∀ g, IsZip g (s.heap.objs.size + 4) (s.heap.objs.size + 2) (s.heap.objs.size + 3) .none → IsPair g (s.heap.objs.size + 2) (.ref s.heap.objs.size) (.ref (s.heap.objs.size + 1)) → IsPair g (s.heap.objs.size + 3) .none .none →
     Wk c g s.heap.objs.size l1 0 → Wk d g (s.heap.objs.size + 1) l2 0 → (∀ b o, s.heap.get? b = some o → g.get? b = some o) → Q (.ref (s.heap.objs.size + 4)) { s with heap := g }) :
   wpAny (model prog w) A (call (.type "zip") [.ref l1, .ref l2]) Q E s := by
 refine callType_new F.called_zip (by decide) (F.typeCall_zip_2 _ _) (F.newCall_zip_2 _ _) (fun obj => F.args_object_init_3 obj _ _) F.entry_zip_new (meets_new c d l1 l2 xs ys) ⟨h1, h2, ?_⟩
 have n1 : (zA c s.heap l1).objs.size = s.heap.objs.size + 1 := Heap.size_push ..
 have n2 : (zB c d s.heap l1 l2).objs.size = s.heap.objs.size + 2 := by rw [Heap.size_push, n1]
 have n3 : (zC c d s.heap l1 l2).objs.size = s.heap.objs.size + 3 := by rw [Heap.size_push, n2]
 have n4 : (zD c d s.heap l1 l2).objs.size = s.heap.objs.size + 4 := by rw [Heap.size_push, n3]
 have e5 : (zE c d s.heap l1 l2).get? (zD c d s.heap l1 l2).objs.size = some _ := Heap.get?_push_size _ rfl
 have e4 : (zE c d s.heap l1 l2).get? (zC c d s.heap l1 l2).objs.size = some _ := Heap.get?_push_of_some _ (Heap.get?_push_size _ rfl)
 have e3 : (zE c d s.heap l1 l2).get? (zB c d s.heap l1 l2).objs.size = some _ := Heap.get?_push_of_some _ (Heap.get?_push_of_some _ (Heap.get?_push_size _ rfl))
 have e2 : (zE c d s.heap l1 l2).get? (zA c s.heap l1).objs.size = some _ := Heap.get?_push_of_some _ (Heap.get?_push_of_some _ (Heap.get?_push_of_some _ (Heap.get?_push_size _ rfl)))
 have e1 : (zE c d s.heap l1 l2).get? s.heap.objs.size = some _ := Heap.get?_push_of_some _ (Heap.get?_push_of_some _ (Heap.get?_push_of_some _ (Heap.get?_push_of_some _ (Heap.get?_push_size _ rfl))))
 show _ ∧ _
 rw [n2, n3, n4] at e5
 rw [n1, n2] at e3
 rw [n3] at e4
 rw [n1] at e2
 rw [n4]
 exact ⟨⟨_, e5, rfl⟩, hq _ e5 e3 e4 (wk_new e1) (wk_new e2) fun b o q => Heap.get?_push_of_some _ (Heap.get?_push_of_some _ (Heap.get?_push_of_some _ (Heap.get?_push_of_some _ (Heap.get?_push_of_some _ q))))⟩
end
end Hh
namespace Hh
open PySem PySem.Spec PyProof.Rows L2 HotX
abbrev St := L2.St
def Md (X : Cx) : Prop := X.calm = true ∨ L2H.HotC X
def Cm (X : Cx) : Prop := X.calm = true
structure TurnM (md : Cx → Prop) (P : Program) (w : World) (K : PySem.W.Frag) (tg : Expr) (J : L2.It) (fp : List Addr) (it : Addr) (tn : Nat → Heap → Prop) : Prop where
 mem : it ∈ fp
 obj : ∀ i h, tn i h → ∀ b ∈ fp, ∃ o, h.get? b = some o ∧ ∀ v, o.data ≠ .cell v
 keep : ∀ i h h', tn i h → (∀ b ∈ fp, ∀ o, h.get? b = some o → h'.get? b = some o) → tn i h'
 item : ∀ (X : Cx), X.prog = P → X.w = w → X.K = K → md X → ∀ (i : Nat) (pins : List (Addr × Obj)) (s : Shared) (σ : St) (H : Hp) (E : Value → Shared → Prop), Inv X pins σ H s → (∀ b ∈ fp, FpOk X pins H b) → tn i s.heap → J.go i H →
   wpAny (model P w) X.A (pyNext (.ref it)) (fun r s1 => ∃ u, r = some u ∧
     wpAny (model P w) X.A (letOwnedTupleGo tg (.ref it) u) (fun _ s2 => ∃ x H', Inv X pins σ H' s2 ∧ RelV x u ∧ J.yld i H x H' ∧ tn (i + 1) s2.heap ∧ ∀ b ∈ fp, H' b = none) E s1) E s
 done : ∀ (X : Cx), X.prog = P → X.w = w → X.K = K → md X → ∀ (i : Nat) (pins : List (Addr × Obj)) (s : Shared) (σ : St) (H : Hp) (E : Value → Shared → Prop), Inv X pins σ H s → (∀ b ∈ fp, FpOk X pins H b) → tn i s.heap → J.stop i H →
   wpAny (model P w) X.A (pyNext (.ref it)) (fun r s1 => r = none ∧ Inv X pins σ H s1) E s
 self : ∀ (A : Around) (i : Nat) (s : Shared) (Q : Value → Shared → Prop) (E : Value → Shared → Prop), tn i s.heap → Q (.ref it) s → wpAny (model P w) A (pyIter (.ref it)) Q E s
theorem TurnM.of {P : Program} {w : World} {K : PySem.W.Frag} {tg : Expr} {J : L2.It} {fp : List Addr} {it : Addr} {tn : Nat → Heap → Prop} (T : Turn P w K tg J fp it tn) : TurnM Cm P w K tg J fp it tn :=
 ⟨T.mem, T.obj, T.keep, fun X a b c d => T.item X a b c d, fun X a b c d => T.done X a b c d, T.self⟩
theorem TurnM.weak {md md' : Cx → Prop} {P : Program} {w : World} {K : PySem.W.Frag} {tg : Expr} {J : L2.It} {fp : List Addr} {it : Addr} {tn : Nat → Heap → Prop} (T : TurnM md P w K tg J fp it tn) (h : ∀ X, md' X → md X) : TurnM md' P w K tg J fp it tn :=
 ⟨T.mem, T.obj, T.keep, fun X a b c d => T.item X a b c (h X d), fun X a b c d => T.done X a b c (h X d), T.self⟩
theorem Md.plc {X : Cx} {pins : List (Addr × Obj)} {σ : St} {H : Hp} {s : Shared} {fp : List Addr} (m : Md X) (I : Inv X pins σ H s) (hf : ∀ b ∈ fp, FpOk X pins H b) : Plc X.A s.heap fp := by
 rcases m with m | ⟨p, ⟨hh, vs, e1, c1⟩, hp⟩
 · exact .inl (I.ok.hd m)
 · have hp' : p ∈ X.pn ++ pins := List.mem_append_left _ hp
   refine .inr ⟨p.1, ⟨hh, p.2, vs, (I.pin p hp').1, e1, c1⟩, fun z => ?_⟩
   exact (hf _ z).2.2.2.2.2 p hp' rfl
def PIEM (md : Cx → Prop) (X : Cx) (pins : List (Addr × Obj)) (σ : St) (tg : Expr) (R : L2.It → Hp → Prop) (itv : Value) (s2 : Shared) : Prop :=
 ∃ (it : Addr) (fp : List Addr) (tn : Nat → Heap → Prop) (J : L2.It) (H' : Hp), itv = .ref it ∧ Inv X pins σ H' s2 ∧ TurnM md X.prog X.w X.K tg J fp it tn ∧ tn 0 s2.heap ∧ (∀ b ∈ fp, FpOk X pins H' b) ∧ R J H'
structure PIM (md : Cx → Prop) (X : Cx) (tg iter : Expr) (wi : TI) : Prop where
 run : ∀ (pins : List (Addr × Obj)) (s : Shared) (σ : St) (H : Hp) (R : L2.It → Hp → Prop), Inv X pins σ H s → wi σ H R →
   wpAny (model X.prog X.w) X.A (eval iter X.env) (fun v s1 => wpAny (model X.prog X.w) X.A (pyIter v) (PIEM md X pins σ tg R) X.xe s1) X.xe s
theorem PIM.of {X : Cx} {tg iter : Expr} {wi : TI} (h : PI X tg iter wi) : PIM Cm X tg iter wi := ⟨fun pins s σ H R I q => thn (h.run pins s σ H R I q) fun v s1 h1 => thn h1 fun itv s2 ⟨it, fp, tn, J, H', e, I', T, t0, hf, r⟩ => ⟨it, fp, tn, J, H', e, I', .of T, t0, hf, r⟩⟩
theorem PIM.ofH {X : Cx} {tg iter : Expr} {wi : TI} (h : L2H.PIH X tg iter wi) : PIM L2H.HotC X tg iter wi := ⟨fun pins s σ H R I q => thn (h.run pins s σ H R I q) fun v s1 h1 => thn h1 fun itv s2 ⟨it, fp, tn, J, H', e, I', T, t0, hf, r⟩ => ⟨it, fp, tn, J, H', e, I', ⟨T.mem, T.obj, T.keep, fun X a b c d => T.item X a b c d, fun X a b c d => T.done X a b c d, T.self⟩, t0, hf, r⟩⟩
theorem pi_range2H {X : Cx} {tg a b : Expr} {ta : TA} {p pos : Pos} (hg : Gl X "range") (hm : X.mg "range" = none) (ha : PA X [a, b] ta) (hs : starEach [a, b] X.env = [(false, eval a X.env), (false, eval b X.env)]) (hs2 : starEach [b] X.env = [(false, eval b X.env)]) :
   L2H.PIH X tg (.Call (.Name "range" p) [a, b] [] pos) (iRng2 ta) := by
 refine ⟨fun pins s σ H R I h => ?_⟩
 refine Call_ (ld_blt I hg hm boot_range (PyProof.Rows.callWith_type1 (thn (ha.run pos pins s σ H _ I h) fun us s1 ⟨vs, H1, I1, r1, q1⟩ => ?_) (by rw [hs, hs2]) (by rw [hs2]; rfl)))
 obtain ⟨i, j, e, ⟨q1, q2, q3, q4⟩, q⟩ := q1
 subst e
 cases r1 with
 | cons r rr =>
   cases rr with
   | cons r' rr =>
     cases rr
     obtain ⟨t, rfl⟩ := r
     obtain ⟨t', rfl⟩ := r'
     exact call_range_2 (L2H.range_itH I1 q1 q2 q3 q4 q)
theorem PIM.weak {md md' : Cx → Prop} {X : Cx} {tg iter : Expr} {wi : TI} (h : PIM md X tg iter wi) (k : ∀ X, md' X → md X) : PIM md' X tg iter wi := ⟨fun pins s σ H R I q => thn (h.run pins s σ H R I q) fun v s1 h1 => thn h1 fun itv s2 ⟨it, fp, tn, J, H', e, I', T, t0, hf, r⟩ => ⟨it, fp, tn, J, H', e, I', T.weak k, t0, hf, r⟩⟩
theorem PIM.imp {md : Cx → Prop} {X : Cx} {tg iter : Expr} {t u : TI} (h : PIM md X tg iter t) (i : ∀ σ H R, u σ H R → t σ H R) : PIM md X tg iter u := ⟨fun pins s σ H R I q => h.run pins s σ H R I (i σ H R q)⟩
theorem turn_L {P : Program} {w : World} {K : PySem.W.Frag} {tg : Expr} (a it : Addr) : TurnM Md P w K tg (Itl K a) [it] it (fun i h => h.IsListIter it a i) where
 mem := (turn_list (P := P) (w := w) (K := K) (tg := tg) a it).mem
 obj := (turn_list (P := P) (w := w) (K := K) (tg := tg) a it).obj
 keep := (turn_list (P := P) (w := w) (K := K) (tg := tg) a it).keep
 self := (turn_list (P := P) (w := w) (K := K) (tg := tg) a it).self
 item := by
   intro X hP hw hK hm i pins s σ H E I hf st hg
   subst hP hw hK
   obtain ⟨xs, x, hq, hx⟩ := hg
   obtain ⟨its, rv, p, hz⟩ := I.list hq
   obtain ⟨u, hu, ru⟩ := rv.get hx
   obtain ⟨f0, f1, f2, f3, f4, f5⟩ := hf it (by simp)
   refine wpAny_pyNext_list_item st p.isList (x := u) (by simpa using hu) fun g st' sb => ?_
   have I1 : Inv X pins σ H { s with heap := g } := I.turned (t' := s.toks) (fun b o hb e => (sb.2 b hb).trans e) f0 f1 f3 f4 f5
   obtain ⟨o, e, c, d⟩ := id st'
   exact ⟨u, rfl, go_of (s := { s with heap := g }) e c d (by decide) ⟨x, H, I1, ru, ⟨rfl, fun ys hy => by rw [I.list_inj hy hq]; exact hx⟩, st', fun b hb => (hf b hb).1⟩⟩
 done := by
   intro X hP hw hK hm i pins s σ H E I hf st hg
   subst hP hw hK
   rcases hm.plc I hf with hc | ⟨x1, hot, nx⟩
   · obtain ⟨xs, hq, hx⟩ := hg
     obtain ⟨its, rv, p, hz⟩ := I.list hq
     obtain ⟨f0, f1, f2, f3, f4, f5⟩ := hf it (by simp)
     have hl := rv.length
     exact wpAny_pyNext_list_end hc st p.isList (by simp; omega) fun g eb => ⟨rfl, I.turned (t' := s.toks) (fun b o hb e => eb b o hb e) f0 f1 f3 f4 f5⟩
   · obtain ⟨xs, hq, hx⟩ := hg
     obtain ⟨its, rv, p, hz⟩ := I.list hq
     obtain ⟨f0, f1, f2, f3, f4, f5⟩ := hf it (by simp)
     have hl := rv.length
     exact list_stop hot (fun z => nx (by simp [z])) st p.isList (by simp; omega) fun g eb => ⟨rfl, I.turned (t' := s.toks) (fun b o hb e => eb b o hb e) f0 f1 f3 f4 f5⟩
theorem turn_T {P : Program} {w : World} {K : PySem.W.Frag} {tg : Expr} (a it : Addr) : TurnM Md P w K tg (Itt K a) [it] it (fun i h => h.IsTupleIter it a i) where
 mem := (turn_tuple (P := P) (w := w) (K := K) (tg := tg) a it).mem
 obj := (turn_tuple (P := P) (w := w) (K := K) (tg := tg) a it).obj
 keep := (turn_tuple (P := P) (w := w) (K := K) (tg := tg) a it).keep
 self := (turn_tuple (P := P) (w := w) (K := K) (tg := tg) a it).self
 item := by
   intro X hP hw hK hm i pins s σ H E I hf st hg
   subst hP hw hK
   obtain ⟨xs, x, hq, hx⟩ := hg
   obtain ⟨its, rv, p, hz⟩ := I.tuple hq
   obtain ⟨u, hu, ru⟩ := rv.get hx
   obtain ⟨f0, f1, f2, f3, f4, f5⟩ := hf it (by simp)
   refine wpAny_pyNext_tuple_item st (show s.heap.IsTuple a its.toArray from p) (x := u) (by simpa using hu) fun g st' sb => ?_
   have I1 : Inv X pins σ H { s with heap := g } := I.turned (t' := s.toks) (fun b o hb e => (sb.2 b hb).trans e) f0 f1 f3 f4 f5
   obtain ⟨o, e, c, d⟩ := id st'
   exact ⟨u, rfl, go_of (s := { s with heap := g }) e c d (by decide) ⟨x, H, I1, ru, ⟨rfl, fun ys hy => by rw [I.tuple_inj hy hq]; exact hx⟩, st', fun b hb => (hf b hb).1⟩⟩
 done := by
   intro X hP hw hK hm i pins s σ H E I hf st hg
   subst hP hw hK
   obtain ⟨xs, hq, hx⟩ := hg
   obtain ⟨its, rv, p, hz⟩ := I.tuple hq
   obtain ⟨f0, f1, f2, f3, f4, f5⟩ := hf it (by simp)
   have hl := rv.length
   rcases hm.plc I hf with hc | ⟨x1, hot, nx⟩
   · exact wpAny_pyNext_tuple_end hc st (show s.heap.IsTuple a its.toArray from p) (by simp; omega) fun g eb => ⟨rfl, I.turned (t' := s.toks) (fun b o hb e => eb b o hb e) f0 f1 f3 f4 f5⟩
   · exact tuple_stop hot (fun z => nx (by simp [z])) st (show s.heap.IsTuple a its.toArray from p) (by simp; omega) fun g eb => ⟨rfl, I.turned (t' := s.toks) (fun b o hb e => eb b o hb e) f0 f1 f3 f4 f5⟩
section
variable {X : Cx} {tg : Expr}
end
end Hh
namespace Hh
open PySem PySem.Spec PyProof.Rows L2 HotX
def SqX (c : Bool) (K : PySem.W.Frag) (H : Hp) (a : Addr) (xs : List V) : Prop := if c then SqT K H a xs else SqL K H a xs
theorem SqX.get {c : Bool} {X : Cx} {pins : List (Addr × Obj)} {σ : St} {H : Hp} {s : Shared} {a : Addr} {xs : List V} (I : Inv X pins σ H s) (h : SqX c X.K H a xs) : ∃ its : List Value, Vals xs its ∧ Sq c s.heap a its.toArray ∧ a < s.heap.objs.size := by
 cases c with
 | true =>
   obtain ⟨its, rv, p, _⟩ := I.tuple (show SqT X.K H a xs from h)
   exact ⟨its, rv, p, p.lt⟩
 | false =>
   obtain ⟨its, rv, p, _⟩ := I.list (show SqL X.K H a xs from h)
   exact ⟨its, rv, p.isList, p.lt⟩
theorem SqX.inj {c : Bool} {X : Cx} {pins : List (Addr × Obj)} {σ : St} {H : Hp} {s : Shared} {a : Addr} {xs ys : List V} (I : Inv X pins σ H s) (h : SqX c X.K H a xs) (k : SqX c X.K H a ys) : xs = ys := by
 cases c with
 | true => exact I.tuple_inj (show SqT X.K H a xs from h) (show SqT X.K H a ys from k)
 | false => exact I.list_inj (show SqL X.K H a xs from h) (show SqL X.K H a ys from k)
def Itz2 (K : PySem.W.Frag) (c d : Bool) (a b : Addr) : L2.It :=
 ⟨fun i H => ∃ (xs ys : List V) (x y : V), SqX c K H a xs ∧ SqX d K H b ys ∧ xs[i]? = some x ∧ ys[i]? = some y,
   fun i H v H' => ∃ T x y, v = .ref T ∧ H T = none ∧ H' = upd H T (.tup [x, y]) ∧ (∀ xs, SqX c K H a xs → xs[i]? = some x) ∧ ∀ ys, SqX d K H b ys → ys[i]? = some y,
   fun i H => ∃ xs ys : List V, SqX c K H a xs ∧ SqX d K H b ys ∧ (xs.length ≤ i ∨ ys.length ≤ i)⟩
def Zt (c d : Bool) (z TI TO i1 i2 a b : Addr) (i : Nat) (h : Heap) : Prop := IsZip h z TI TO .none ∧ IsPair h TI (.ref i1) (.ref i2) ∧ (∃ x y, IsPair h TO x y) ∧ Wk c h i1 a i ∧ Wk d h i2 b i
theorem wk_obj {c : Bool} {h : Heap} {it l : Addr} {i : Nat} (x : Wk c h it l i) : ∃ o, h.get? it = some o ∧ ∀ v, o.data ≠ .cell v := by
 cases c with
 | true =>
   obtain ⟨o, e, _, d⟩ := (show h.IsTupleIter it l i from x)
   exact ⟨o, e, fun v q => by rw [d] at q; cases q⟩
 | false =>
   obtain ⟨o, e, _, d⟩ := (show h.IsListIter it l i from x)
   exact ⟨o, e, fun v q => by rw [d] at q; cases q⟩
theorem five {b z TI TO i1 i2 : Addr} (h : b ∈ [z, TI, TO, i1, i2]) : b = z ∨ b = TI ∨ b = TO ∨ b = i1 ∨ b = i2 := by simpa using h
theorem turn_Z {P : Program} {w : World} {K : PySem.W.Frag} {elts : List Expr} {kk : Nat} {tpos : Pos} {c d : Bool} {a b z TI TO i1 i2 : Addr} (D : ZipApart z TI TO i1 i2 a b) :
   TurnM Md P w K (.Tuple elts kk tpos) (Itz2 K c d a b) [z, TI, TO, i1, i2] z (fun i h => Zt c d z TI TO i1 i2 a b i h) where
 mem := by simp
 obj := fun i h st x hx => by
   obtain ⟨hz, hI, ⟨u, v, hO⟩, w1, w2⟩ := st
   rcases five hx with q | q | q | q | q <;> rw [q]
   · exact ⟨_, hz, fun v q => nomatch q⟩
   · exact ⟨_, hI, fun v q => nomatch q⟩
   · exact ⟨_, hO, fun v q => nomatch q⟩
   · exact wk_obj w1
   · exact wk_obj w2
 keep := fun i h h' st k => by
   obtain ⟨hz, hI, ⟨u, v, hO⟩, w1, w2⟩ := st
   exact ⟨k z (by simp) _ hz, k TI (by simp) _ hI, ⟨u, v, k TO (by simp) _ hO⟩, w1.keep fun o q => k i1 (by simp) o q, w2.keep fun o q => k i2 (by simp) o q⟩
 self := fun A i s Q E st h => wpAny_pyIter_zip st.1 h
 item := by
   intro X hP hw hK hm i pins s σ H E I hf st hg
   subst hP hw hK
   obtain ⟨hz, hI, hO, w1, w2⟩ := id st
   obtain ⟨xs, ys, x, y, qx, qy, ex, ey⟩ := hg
   obtain ⟨its, rv, p, _⟩ := SqX.get I qx
   obtain ⟨its2, rv2, p2, _⟩ := SqX.get I qy
   obtain ⟨u, hu, ru⟩ := rv.get ex
   obtain ⟨u2, hu2, ru2⟩ := rv2.get ey
   have zl : z < s.heap.objs.size := Heap.lt_size hz
   refine zip_item D ⟨hz, hI, hO, w1, w2, p, p2⟩ (x := u) (y := u2) (by simpa using hu) (by simpa using hu2) fun g zg og w1g w2g tg hk => ?_
   refine ⟨_, rfl, wpAny_letOwnedTupleGo_zip (s := { s with heap := g }) zg fun g2 z2 sb => ?_⟩
   have t2 : g2.get? s.heap.objs.size = some { cls := .type "tuple", data := .seq #[u, u2] } := (sb.2 _ (Nat.ne_of_gt zl)).trans tg
   have new : ObjOk X.prog X.w (upd H s.heap.objs.size (.tup [x, y])) g2 s.heap.objs.size (.tup [x, y]) := ⟨by show 2 ≤ sizeLine; decide, [u, u2], .cons ru (.cons ru2 .nil), ⟨_, t2, rfl, _, rfl⟩⟩
   have I1 : Inv X pins σ (upd H s.heap.objs.size (.tup [x, y])) { s with heap := g2 } :=
     I.turnedNew (t' := s.toks) (ch := [z, TI, TO, i1, i2]) (fun b o hb q => (sb.2 b (fun e => hb (by simp [e]))).trans (hk b o (fun e => hb (by simp [e])) (fun e => hb (by simp [e])) (fun e => hb (by simp [e])) (fun e => hb (by simp [e])) q)) hf (Nat.le_refl _) new
   obtain ⟨a1, b1, og⟩ := og
   refine ⟨.ref s.heap.objs.size, _, I1, rfl, ⟨_, x, y, rfl, I.hok.fresh (Nat.le_refl _), rfl, fun l hl => by rw [SqX.inj I hl qx]; exact ex, fun l hl => by rw [SqX.inj I hl qy]; exact ey⟩, ⟨z2, ?_, ⟨a1, b1, ?_⟩, ?_, ?_⟩, fun b hb => ?_⟩
   · exact (sb.2 _ D.TIz).trans (hk _ _ D.TIz D.TITO D.TIi1 D.TIi2 hI)
   · exact (sb.2 _ D.TOz).trans og
   · exact w1g.keep fun o q => (sb.2 _ D.i1z).trans q
   · exact w2g.keep fun o q => (sb.2 _ D.i2z).trans q
   · have hlt : b < s.heap.objs.size := by
       obtain ⟨_, _, hO⟩ := hO
       rcases five hb with q | q | q | q | q <;> rw [q]
       · exact zl
       · exact Heap.lt_size hI
       · exact Heap.lt_size hO
       · exact w1.lt
       · exact w2.lt
     rw [upd_ne (Nat.ne_of_lt hlt)]
     exact (hf b hb).1
 done := by
   intro X hP hw hK hm i pins s σ H E I hf st hg
   subst hP hw hK
   obtain ⟨hz, hI, hO, w1, w2⟩ := id st
   obtain ⟨xs, ys, qx, qy, hend⟩ := hg
   obtain ⟨its, rv, p, _⟩ := SqX.get I qx
   obtain ⟨its2, rv2, p2, _⟩ := SqX.get I qy
   have n1 := rv.length
   have n2 := rv2.length
   have he : its.toArray[i]? = none ∨ its2.toArray[i]? = none := by
     rcases hend with q | q
     · exact .inl (by simp; omega)
     · exact .inr (by simp; omega)
   exact zip_stop (hm.plc I hf) D ⟨hz, hI, hO, w1, w2, p, p2⟩ he fun g hk => ⟨rfl, I.turnedL (t' := s.toks) (ch := [z, TI, TO, i1, i2]) (fun b o hb q =>
     hk b o (fun e => hb (by simp [e])) (fun e => hb (by simp [e])) (fun e => hb (by simp [e])) (fun e => hb (by simp [e])) q) hf⟩
section
variable {X : Cx} {tg : Expr}
def iZip2 (K : PySem.W.Frag) (ta : TA) : TI := fun σ H R => ta σ H fun vs H1 => ∃ c d a b xs ys, vs = [.ref a, .ref b] ∧ SqX c K H1 a xs ∧ SqX d K H1 b ys ∧ R (Itz2 K c d a b) H1
theorem pim_zip {e e2 : Expr} {ta : TA} {p pos tpos : Pos} {elts : List Expr} {kk : Nat} (hg : Gl X "zip") (hm : X.mg "zip" = none) (ha : PA X [e, e2] ta)
   (hs : starEach [e, e2] X.env = (false, eval e X.env) :: starEach [e2] X.env) (hpl : (backTo pos (starEach [e2] X.env)).any (·.1) = false) :
   PIM Md X (.Tuple elts kk tpos) (.Call (.Name "zip" p) [e, e2] [] pos) (iZip2 X.K ta) := by
 refine ⟨fun pins s σ H R I h => ?_⟩
 refine Call_ (ld_blt I hg hm PyProof.Rows.boot_zip (PyProof.Rows.callWith_type1 (thn (ha.run pos pins s σ H _ I h) fun us s1 ⟨vs, H1, I1, r1, q1⟩ => ?_) hs hpl))
 obtain ⟨c, d, a, b, xs, ys, ex, qx, qy, q⟩ := q1
 subst ex
 cases r1 with
 | cons r rr =>
   cases rr with
   | cons r' rr =>
     cases rr
     cases r
     cases r'
     obtain ⟨its, rv, p1, la⟩ := SqX.get I1 qx
     obtain ⟨its2, rv2, p2, lb⟩ := SqX.get I1 qy
     refine zip_made p1 p2 fun g hz hI hO w1 w2 hk => wpAny_pyIter_zip hz ?_
     have I2 : Inv X pins σ H1 { s1 with heap := g } := I1.kept (t' := s1.toks) hk
     refine ⟨s1.heap.objs.size + 4, [s1.heap.objs.size + 4, s1.heap.objs.size + 2, s1.heap.objs.size + 3, s1.heap.objs.size, s1.heap.objs.size + 1], _, _, H1, rfl, I2, turn_Z (PySem.W.ktu_apart s1.heap.objs.size a b la lb), ⟨hz, hI, ⟨_, _, hO⟩, w1, w2⟩, fun x hx => ?_, q⟩
     have hle : s1.heap.objs.size ≤ x := by
       rcases five hx with z | z | z | z | z <;> rw [z] <;> first | exact Nat.le_refl _ | exact Nat.le_add_right _ _
     exact I1.fpOk hle (I1.hok.fresh hle)
theorem ps_forM {md : Cx → Prop} {iter : Expr} {body : List Stmt} {wi : TI} {g : TG} {tb : TS} {pos : Pos} (hp : PassesOwn (model X.prog X.w) X.A X.env X.xe) (hm : md X) (hi : PIM md X tg iter wi) (hg : PG X tg g) (hb : PSs X body tb)
   (hs : ∀ x, foldedSetIterable iter X.env x = pure x) : PS X (.For tg iter body [] pos) (tFor wi g tb) := by
 refine ⟨fun pins s σ H D I h => ?_⟩
 refine wpAny_For (thn (hi.run pins s σ H _ I h) fun v s1 h1 => thn h1 fun itv s2 h2 => ?_) hs
 obtain ⟨it, fp, tn, J, H2, e, I2, T, st2, f2, Wi, ⟨m0, w0⟩, turn⟩ := h2
 subst e
 have fpk : ∀ {H' : Hp}, (∀ b ∈ fp, H' b = none) → ∀ b ∈ fp, FpOk X pins H' b := fun hn b hb => ⟨hn b hb, (f2 b hb).2⟩
 refine codeAny_forLoop_any (fun n s' => ∃ i σ' H', Inv X pins σ' H' s' ∧ tn i s'.heap ∧ (∀ b ∈ fp, H' b = none) ∧ Wi i n σ' H') ?_ m0 ⟨0, σ, H2, I2, st2, fun b hb => (f2 b hb).1, w0⟩
 intro n s3 h3
 obtain ⟨i, σ3, H3, I3, st3, fr3, w3⟩ := h3
 rcases turn i n σ3 H3 w3 with ⟨stop, qn⟩ | ⟨go, N, hN, step⟩
 · refine wpAny_passesOwn hp (thn (T.done X rfl rfl rfl hm i pins s3 σ3 H3 X.xe I3 (fpk fr3) st3 stop) fun r s4 h4 => ?_)
   obtain ⟨hr, I4⟩ := h4
   subst hr
   exact wpAny_execs_nil ⟨σ3, H3, I4, qn⟩
 · refine wpAny_passesOwn hp (thn (T.item X rfl rfl rfl hm i pins s3 σ3 H3 X.xe I3 (fpk fr3) st3 go) fun r s4 h4 => ?_)
   obtain ⟨u, hr, h4⟩ := h4
   subst hr
   refine wpAny_passesOwn hp (thn h4 fun _ s5 h5 => ?_)
   obtain ⟨x, H5, I5, r5, y5, st5, fr5⟩ := h5
   have I5' := I5.pinned (fpk fr5) (T.obj _ _ st5)
   refine wpAny_passesOwn hp (thn (hg.run _ s5 σ3 H5 x u _ I5' r5 (step x H5 y5)) fun _ s6 h6 => ?_)
   obtain ⟨σ6, H6, I6, q6⟩ := h6
   refine wpAny_passesOwn hp (thn (hb.run _ s6 σ6 H6 _ I6 q6) fun f s7 q7 => ?_)
   have again : ∀ {σ7 : St} {H7 : Hp}, Inv X (pins ++ pinsAt fp s5.heap) σ7 H7 s7 → N σ7 H7 → ∃ m, m < n ∧ ∃ i σ' H', Inv X pins σ' H' s7 ∧ tn i s7.heap ∧ (∀ b ∈ fp, H' b = none) ∧ Wi i m σ' H' := fun {σ7 H7} I7 n7 => by
     obtain ⟨m', hm', w7⟩ := hN σ7 H7 n7
     have pk : ∀ b ∈ fp, ∀ o, s5.heap.get? b = some o → s7.heap.get? b = some o ∧ H7 b = none := fun b hb o e => by
       have z := I7.pin (b, o) (List.mem_append_right _ (List.mem_append_right _ (mem_pinsAt hb e)))
       exact ⟨z.1, z.2.1⟩
     refine ⟨m', hm', i + 1, σ7, H7, I7.unpinned, T.keep _ _ _ st5 fun b hb o e => (pk b hb o e).1, fun b hb => ?_, w7⟩
     obtain ⟨o, e, _⟩ := T.obj _ _ st5 b hb
     exact (pk b hb o e).2
   cases f with
   | next => obtain ⟨σ7, H7, I7, n7⟩ := q7; exact again I7 n7
   | cont => obtain ⟨σ7, H7, I7, n7⟩ := q7; exact again I7 n7
   | brk => obtain ⟨σ7, H7, I7, q7⟩ := q7; exact ⟨σ7, H7, I7.unpinned, q7⟩
   | ret v => obtain ⟨x7, σ7, H7, I7, r7, q7⟩ := q7; exact ⟨x7, σ7, H7, I7.unpinned, r7, q7⟩
end
end Hh
set_option maxHeartbeats 4000000
namespace Hh
open PySem PySem.Spec PyProof.Rows L2 HotX
abbrev blkM (X : Cx) (s : Shared) (H : Hp) (scope : Scope) (cenv : PySem.Env) (fp : List Addr) (pins : List (Addr × Obj)) : Cx := { X.blk s H scope cenv fp with pn := X.pn ++ pins }
section
variable {X : Cx} {pins : List (Addr × Obj)} {σ : St} {H : Hp} {s : Shared}
theorem blk_in {s3 s4 : Shared} {H3 H4 : Hp} {σ4 : St} {scope : Scope} {ce : PySem.Env} {fp : List Addr} {ps : List (Addr × Obj)} (I3 : Inv X pins σ H3 s3) (I4 : Inv (X.blk s3 H3 scope ce fp) ps σ4 H4 s4) (hc : ce.locals = s3.heap.objs.size) (hk : ∀ b o, s3.heap.get? b = some o → s4.heap.get? b = some o) (hH : H4 = H3) :
   Inv (blkM X s3 H3 scope ce fp pins) ps σ4 H4 s4 := by
 have ok := I4.ok
 refine ⟨⟨ok.mod, ok.kind, ok.glob, ok.blt, ok.above, ok.inj, ok.has, ok.cab, ok.hd, ok.frames, ok.stk, ok.exf, ok.bs, ok.bsz, ok.noex, ok.exfs, ok.funs, ok.frf⟩, I4.os, I4.bare, I4.base, I4.loc, I4.cell, I4.free, I4.freeC, fun p hp => ?_, I4.hok, I4.len⟩
 rcases List.mem_append.mp hp with hp | hp
 · obtain ⟨h1, h2, h3, h4, h5⟩ := I3.pin p hp
   refine ⟨hk _ _ h1, by rw [hH]; exact h2, ?_, fun z => ?_, h5⟩
   · show p.1 ≠ ce.locals
     rw [hc]
     exact Nat.ne_of_lt (Heap.lt_size h1)
   · rcases List.mem_cons.mp (I3.stkSub p.1 z) with e | e
     · exact h3 e
     · exact h4 e
 · exact I4.pin p (List.mem_append_right _ hp)
theorem lcM_core {md : Cx → Prop} {elt tg iter : Expr} {ifs : List Expr} {scope : Scope} {own : List (Str × Nat)} {pos pos' : Pos} {wi : TI} {g : TG} {tt : TT} {te : TE} {Q : VK} {use : Option (Value → Sem Unit)} {Qf : Value → Shared → Prop}
   (hm : ∀ (s : Shared) (H : Hp) (ce : PySem.Env) (fp : List Addr) (pins : List (Addr × Obj)), md (blkM X s H scope ce fp pins)) (hN : X.N.Nodup) (I : Inv X pins σ H s) (hi : PIM md X tg iter wi) (ok : BlkOk X.N X.env.scope scope own)
   (hg : ∀ (s : Shared) (H : Hp) (C : Addr) (cl : List (Str × Addr)) (fp : List Addr) (pins : List (Addr × Obj)), PG (blkM X s H scope (compEnvC scope cl C X.env) fp pins) tg g)
   (ht : ∀ (s : Shared) (H : Hp) (C : Addr) (cl : List (Str × Addr)) (fp : List Addr) (pins : List (Addr × Obj)), PTs (blkM X s H scope (compEnvC scope cl C X.env) fp pins) ifs tt)
   (he : ∀ (s : Shared) (H : Hp) (C : Addr) (cl : List (Str × Addr)) (fp : List Addr) (pins : List (Addr × Obj)), PE (blkM X s H scope (compEnvC scope cl C X.env) fp pins) elt te)
   (hs : ∀ x, foldedSetIterable iter X.env x = pure x) (h : tLc wi g tt te (own.map (·.2)) σ H Q)
   (hRR : ∀ D C s' m H', Inv X pins σ H' s' → Q (.ref D) H' → s'.heap.Ns C m → FpOk X pins H' C → compPost (model X.prog X.w) X.A X.xe use Qf (.ref D) C (.ok .next) s') :
   wpAny (model X.prog X.w) X.A (comprehension (.ListComp elt [⟨tg, iter, ifs, 0⟩] scope pos) scope X.env pos' (newList []) false (eval iter X.env) use) Qf X.xe s := by
 have hfree : ∀ y ∈ scope.names, y.2 = .free → ∃ c, X.env.cells.lookup y.1 = some c := fun y hy e => (ok.free y hy e).elim (fun k => I.ok.has _ (.inl k)) fun k => I.ok.has _ (.inr k)
 refine wpAny_comprehension_free (use := use) rfl hs (closure_ok hfree) ok.kind (fun y hy e => by rw [ok.uniq y hy, e]) (thn (hi.run pins s σ H _ I h) fun xv s1 hx => thn hx fun itv s2 h2 => ?_)
 obtain ⟨it, fp, tn, J, H2, e, I2, T, st2, f2, q⟩ := h2
 subst e
 refine wpAny_newObj_type (newEnv_comp ?_) (by show 0 ≤ sizeLine; decide)
 generalize hD : s2.heap.objs.size = D
 obtain ⟨Wi, ⟨m0, w0⟩, turn⟩ := q D (I2.hok.fresh (Nat.le_of_eq hD))
 generalize hs3 : ({ s2 with heap := s2.heap.push { cls := .type "list", data := .seq ([] : List Value).toArray } } : Shared) = s3
 have e3 : s3.heap = s2.heap.push { cls := .type "list", data := .seq ([] : List Value).toArray } := by rw [← hs3]
 have k3 : ∀ b o, s2.heap.get? b = some o → s3.heap.get? b = some o := fun b o e => by rw [e3]; exact Heap.get?_push_of_some _ e
 have I3 : Inv X pins σ (upd H2 D (.lst [])) s3 := by
   rw [← hs3]
   refine I2.laid (t' := s2.toks) (fun b o e => Heap.get?_push_of_some _ e) (Nat.le_of_eq hD) ⟨Nat.zero_le _, [], 0, .nil, ?_⟩
   rw [← hD]
   exact Heap.get?_push_size _ rfl
 have f3 : ∀ b ∈ fp, FpOk X pins (upd H2 D (.lst [])) b ∧ b < s3.heap.objs.size := fun b hb => by
   obtain ⟨o, e, _⟩ := T.obj _ _ st2 b hb
   have hlt := Heap.lt_size e
   exact ⟨⟨by rw [upd_ne (by rw [← hD]; exact Nat.ne_of_lt hlt)]; exact (f2 b hb).1, (f2 b hb).2⟩, by rw [e3, Heap.size_push]; exact Nat.lt_succ_of_lt hlt⟩
 have st3 : tn 0 s3.heap := T.keep _ _ _ st2 fun b _ o e => k3 b o e
 have I4 := block_start I3 ok hN f3
 show codeAny _ _ (.compStart (.ListComp elt [⟨tg, iter, ifs, 0⟩] scope pos) 0 (.ref it) (.ref D) (compEnvC scope (cellsFrom (s3.heap.objs.size + 1) scope.names (cloFrom X.env.cells scope.names [])) s3.heap.objs.size X.env)) (compPost (model X.prog X.w) X.A X.xe use Qf (.ref D) s3.heap.objs.size) { s3 with heap := pushCells (s3.heap.push { cls := .type "dict", data := .dict #[] }) scope.names }
 have pg := hg s3 (upd H2 D (.lst [])) s3.heap.objs.size (cellsFrom (s3.heap.objs.size + 1) scope.names (cloFrom X.env.cells scope.names [])) fp pins
 have pt := ht s3 (upd H2 D (.lst [])) s3.heap.objs.size (cellsFrom (s3.heap.objs.size + 1) scope.names (cloFrom X.env.cells scope.names [])) fp pins
 have pe := he s3 (upd H2 D (.lst [])) s3.heap.objs.size (cellsFrom (s3.heap.objs.size + 1) scope.names (cloFrom X.env.cells scope.names [])) fp pins
 have nfp : ∀ b ∈ fp, (upd H2 D (.lst [])) b = none := fun b hb => (f3 b hb).1.1
 generalize hce : compEnvC scope (cellsFrom (s3.heap.objs.size + 1) scope.names (cloFrom X.env.cells scope.names [])) s3.heap.objs.size X.env = ce at I4 pg pt pe ⊢
 have cL : ce.locals = s3.heap.objs.size := by subst hce; rfl
 generalize hH3 : upd H2 D (.lst []) = H3 at I3 I4 pg pt pe w0 nfp f3
 generalize hs4 : ({ s3 with heap := pushCells (s3.heap.push { cls := .type "dict", data := .dict #[] }) scope.names } : Shared) = s4 at I4 ⊢
 have k4 : ∀ b o, s3.heap.get? b = some o → s4.heap.get? b = some o := fun b o e => by rw [← hs4]; exact pushCells_keeps _ _ _ _ (Heap.get?_push_of_some _ e)
 have st4 : tn 0 s4.heap := T.keep _ _ _ st3 fun b _ o e => k4 b o e
 have J4 := blk_in I3 I4 cL k4 rfl
 have mdB : md (blkM X s3 H3 scope ce fp pins) := hm s3 H3 ce fp pins
 generalize hXb : blkM X s3 H3 scope ce fp pins = Xb at J4 mdB pg pt pe
 have bP : Xb.prog = X.prog := by rw [← hXb]
 have bW : Xb.w = X.w := by rw [← hXb]
 have bK : Xb.K = X.K := by rw [← hXb]
 have bA : Xb.A = X.A := by rw [← hXb]
 have bx : Xb.xe = fun _ _ => False := by rw [← hXb]
 have bE : Xb.env = ce := by rw [← hXb]
 have bp : Xb.pn = X.pn ++ pins := by rw [← hXb]
 have bex : Xb.ex = fp := by rw [← hXb]
 have stat : ∀ {ps : List (Addr × Obj)} {σ' : St} {H' : Hp} {s' : Shared}, Inv Xb ps σ' H' s' → ps = [] → (∀ b ∈ fp, H' b = none) → ∀ b ∈ fp, FpOk Xb ps H' b := fun {ps σ' H' s'} I' hps hn b hb => by
   have h5 := I'.ok.exf b (by rw [bex]; exact hb)
   refine ⟨hn b hb, h5.1, I'.ok.exfs b (by rw [bex]; exact hb), .inl (by rw [bex]; exact hb), fun x c e => h5.2 x c e, fun p hp => ?_⟩
   rw [hps, List.append_nil, bp] at hp
   exact (f3 b hb).1.2.2.2.2.2 p hp
 have loop : codeAny (model X.prog X.w) X.A (.compLoop (.ListComp elt [⟨tg, iter, ifs, 0⟩] scope pos) 0 (.ref it) (.ref D) ce) (compPost (model X.prog X.w) X.A X.xe use Qf (.ref D) s3.heap.objs.size) s4 := by
   rw [← bP, ← bW, ← bA]
   refine compLoop_any (fun n s' => ∃ i H', Inv Xb [] (wipe σ (own.map (·.2))) H' s' ∧ tn i s'.heap ∧ (∀ b ∈ fp, H' b = none) ∧ Wi i n H') ?_ m0 ⟨0, H3, J4, st4, nfp, w0⟩
   intro n s5 h5
   obtain ⟨i, H5, I5, st5, n5, w5⟩ := h5
   rcases turn i n H5 w5 with ⟨stop, qq⟩ | ⟨go, Nx, hNx, step⟩
   · have td := T.done Xb bP bW bK mdB i [] s5 _ H5 (fun _ _ => False) I5 (stat I5 rfl n5) st5 stop
     rw [← bP, ← bW] at td
     refine thnF td fun r s6 h6 => ?_
     obtain ⟨hr, I6⟩ := h6
     subst hr
     subst hXb
     have I7 : Inv X pins σ H5 s6 := I3.call' (ch := fp) I6.os I6.base I6.hok I6.bare fun b hb => ⟨(f3 b hb).1.2.2.2.1, (f3 b hb).1.2.1, (f3 b hb).1.2.2.2.2.1, (f3 b hb).1.2.2.2.2.2⟩
     have nC : H5 s3.heap.objs.size = none := by
       have z : H5 ce.locals = none := I6.free
       rw [cL] at z
       exact z
     obtain ⟨m, hn, _⟩ := I6.loc
     have hn : s6.heap.Ns ce.locals m := hn
     rw [cL] at hn
     exact hRR D s3.heap.objs.size s6 m H5 I7 qq hn (I3.fpOk (Nat.le_refl _) nC)
   · have ti := T.item Xb bP bW bK mdB i [] s5 _ H5 (fun _ _ => False) I5 (stat I5 rfl n5) st5 go
     rw [← bP, ← bW] at ti
     refine thnF ti fun r s6 h6 => ?_
     obtain ⟨u, hr, h6⟩ := h6
     subst hr
     refine thnF h6 fun _ s7 h7 => ?_
     obtain ⟨x, H7, I7, r7, y7, st7, n7⟩ := h7
     have I7' := I7.pinned (stat I7 rfl n7) (T.obj _ _ st7)
     have pgr := pg.run _ s7 _ H7 x u _ I7' r7 (step x H7 y7)
     rw [bx, bE] at pgr
     refine thnF pgr fun _ s8 h8 => ?_
     obtain ⟨σ8, H8, I8, hw8, q8⟩ := h8
     have ptr := pt.run _ s8 σ8 H8 _ I8 q8
     rw [bx, bE] at ptr
     refine thnF ptr fun b s9 h9 => ?_
     obtain ⟨H9, I9, q9⟩ := h9
     have fin : ∀ {s' : Shared} {H' : Hp}, Inv Xb ([] ++ pinsAt fp s7.heap) σ8 H' s' → Nx H' → ∃ m, m < n ∧ ∃ i H', Inv Xb [] (wipe σ (own.map (·.2))) H' s' ∧ tn i s'.heap ∧ (∀ b ∈ fp, H' b = none) ∧ Wi i m H' := fun {s' H'} I' nx => by
       obtain ⟨m', hm', w'⟩ := hNx H' nx
       have pk : ∀ b ∈ fp, ∀ o, s7.heap.get? b = some o → s'.heap.get? b = some o ∧ H' b = none := fun b hb o e => by
         have z := I'.pin (b, o) (List.mem_append_right _ (List.mem_append_right _ (mem_pinsAt hb e)))
         exact ⟨z.1, z.2.1⟩
       have hl : (wipe σ (own.map (·.2))).length = σ8.length := by rw [← hw8, wipe_length]
       refine ⟨m', hm', i + 1, H', (I'.unpinned (pins := [])).weak hl (fun j v e => ?_), T.keep _ _ _ st7 fun b hb o e => (pk b hb o e).1, fun b hb => ?_, w'⟩
       · rw [← hw8] at e
         exact (wipe_some e).1
       · obtain ⟨o, e, _⟩ := T.obj _ _ st7 b hb
         exact (pk b hb o e).2
     cases b with
     | false =>
       simp only [Bool.false_eq_true, if_false] at q9 ⊢
       exact fin I9 q9
     | true =>
       simp only [if_true] at q9 ⊢
       have per := pe.run _ s9 σ8 H9 _ I9 q9
       rw [bx, bE] at per
       refine thnF per fun z s10 h10 => ?_
       obtain ⟨yv, H10, I10, r10, acc, hD10, hz10, nx⟩ := h10
       refine app_ok (X := Xb) (Q := fun _ s' => ∃ m, m < n ∧ ∃ i H', Inv Xb [] (wipe σ (own.map (·.2))) H' s' ∧ tn i s'.heap ∧ (∀ b ∈ fp, H' b = none) ∧ Wi i m H') I10 hD10 hz10 r10 fun s11 I11 => fin I11 nx
 exact codeAny_compStart_list loop (T.self X.A 0 _ _ _ st4 loop)
theorem lcM {md : Cx → Prop} {elt tg iter : Expr} {ifs : List Expr} {scope : Scope} {own : List (Str × Nat)} {pos : Pos} {wi : TI} {g : TG} {tt : TT} {te : TE}
   (hm : ∀ (s : Shared) (H : Hp) (ce : PySem.Env) (fp : List Addr) (pins : List (Addr × Obj)), md (blkM X s H scope ce fp pins)) (hN : X.N.Nodup) (hi : PIM md X tg iter wi) (ok : BlkOk X.N X.env.scope scope own)
   (hg : ∀ (s : Shared) (H : Hp) (C : Addr) (cl : List (Str × Addr)) (fp : List Addr) (pins : List (Addr × Obj)), PG (blkM X s H scope (compEnvC scope cl C X.env) fp pins) tg g)
   (ht : ∀ (s : Shared) (H : Hp) (C : Addr) (cl : List (Str × Addr)) (fp : List Addr) (pins : List (Addr × Obj)), PTs (blkM X s H scope (compEnvC scope cl C X.env) fp pins) ifs tt)
   (he : ∀ (s : Shared) (H : Hp) (C : Addr) (cl : List (Str × Addr)) (fp : List Addr) (pins : List (Addr × Obj)), PE (blkM X s H scope (compEnvC scope cl C X.env) fp pins) elt te)
   (hs : ∀ x, foldedSetIterable iter X.env x = pure x) : PE X (.ListComp elt [⟨tg, iter, ifs, 0⟩] scope pos) (tLc wi g tt te (own.map (·.2))) := by
 refine ⟨fun pins s σ H Q I h => ?_⟩
 rw [eval_ListComp]
 refine lcM_core (use := none) hm hN I hi ok hg ht he hs h fun D C s' m H' I' q hn f => ⟨m, hn, fun h'' sb => ?_⟩
 obtain ⟨f0, f1, f2, f3, f4, f5⟩ := f
 exact ⟨.ref D, H', I'.turned (t' := s'.toks) (fun b o hb e => (sb.2 b hb).trans e) f0 f1 f3 f4 f5, rfl, q⟩
theorem setLcM {md : Cx → Prop} {i : Nat} {y : Str} {py : Pos} {elt tg iter : Expr} {ifs : List Expr} {scope : Scope} {own : List (Str × Nat)} {pos spos : Pos} {wi : TI} {g : TG} {tt : TT} {te : TE}
   (hm : ∀ (s : Shared) (H : Hp) (ce : PySem.Env) (fp : List Addr) (pins : List (Addr × Obj)), md (blkM X s H scope ce fp pins)) (hN : X.N.Nodup) (hy : X.N[i]? = some y) (hyl : X.env.scope.names.lookup y = some .local)
   (hsw : swapsWith (.ListComp elt [⟨tg, iter, ifs, 0⟩] scope pos) (some (.Name y py)) spos.line X.env = pure true) (hi : PIM md X tg iter wi) (ok : BlkOk X.N X.env.scope scope own)
   (hg : ∀ (s : Shared) (H : Hp) (C : Addr) (cl : List (Str × Addr)) (fp : List Addr) (pins : List (Addr × Obj)), PG (blkM X s H scope (compEnvC scope cl C X.env) fp pins) tg g)
   (ht : ∀ (s : Shared) (H : Hp) (C : Addr) (cl : List (Str × Addr)) (fp : List Addr) (pins : List (Addr × Obj)), PTs (blkM X s H scope (compEnvC scope cl C X.env) fp pins) ifs tt)
   (he : ∀ (s : Shared) (H : Hp) (C : Addr) (cl : List (Str × Addr)) (fp : List Addr) (pins : List (Addr × Obj)), PE (blkM X s H scope (compEnvC scope cl C X.env) fp pins) elt te)
   (hs : ∀ x, foldedSetIterable iter X.env x = pure x) :
   PS X (.Assign [.Name y py] (.ListComp elt [⟨tg, iter, ifs, 0⟩] scope pos) spos) (tAsg (tLc wi g tt te (own.map (·.2))) (gName i)) := by
 refine ⟨fun pins s σ H D I h => ?_⟩
 rw [exec_Assign_Name_used _ _ _ _ hsw]
 refine wpAny_bind (wpAny_standAt (wpAny_bind ?_))
 show wpAny _ X.A (do let _ ← comprehension (.ListComp elt [⟨tg, iter, ifs, 0⟩] scope pos) scope X.env (firstIterPos [⟨tg, iter, ifs, 0⟩] pos) (newList []) false (eval iter X.env) (some (assign (.Name y py) X.env))) _ _ s
 have h : tLc wi g tt te (own.map (·.2)) σ H (fun x H1 => gName i x σ H1 D.nx) := h
 refine wpAny_bind (thn (lcM_core (Qf := fun _ s' => SP X pins D .next s') hm hN I hi ok hg ht he hs h fun L C s' m H' I' q hn f => ?_) fun _ s' hq => wpAny_pure (wpAny_pure hq))
 show wpAny _ _ (assign (.Name y py) X.env (.ref L)) _ _ _
 refine wpAny_assign_Name (store_ok2 (v := V.ref L) I' hN hy (.inl hyl) rfl (fun s2 I2 ⟨a, sb, ha⟩ => ?_) (.inr hyl))
 obtain ⟨f0, f1, f2, f3, f4, f5⟩ := f
 have haC : C ≠ a := by
   rcases ha with z | z
   · rw [z]; exact f1
   · exact fun e => f4 y a z e.symm
 refine ⟨m, hn.sameBut sb haC, fun h3 sb3 => ?_⟩
 exact ⟨_, H', I2.turned (t' := s2.toks) (fun b o hb e => (sb3.2 b hb).trans e) f0 f1 f3 f4 f5, q⟩
end
end Hh
namespace Zt
open PySem PySem.Spec PyProof.Rows L2
theorem pg_tupM {X : Cx} {pos : Pos} {es : List Expr} {k : Nat} {t : TGs} {n : Nat} (hm : Hh.Md X) (h : PGs X es t)
   (hn : (assignEach es X.env).length = n) (hst : (assignEach es X.env).findIdx? (·.1) = none) : PG X (.Tuple es k pos) (gTup X.K n t) := by
 rcases hm with hc | hot
 · exact pg_tup hc h hn hst
 · refine ⟨fun pins s σ H v u Q I r hw => ?_⟩
   obtain ⟨a, xs, e1, hq, hl, hw⟩ := hw
   subst e1
   cases r
   obtain ⟨its, rv, ht, hz⟩ := I.tuple hq
   obtain ⟨p, ⟨hh, vs, e2, c1⟩, hp⟩ := hot
   have hp' : p ∈ X.pn ++ pins := List.mem_append_left _ hp
   refine Hh.assign_hot (x1 := p.1) ⟨hh, p.2, vs, (I.pin p hp').1, e2, c1⟩ ht (by simp [hn, ← hl, rv.length]) hst fun h' hx => ?_
   have I1 : Inv X pins σ H { s with heap := h' } := I.kept (t' := s.toks) fun b o e => hx b o (Nat.ne_of_lt (Heap.lt_size e)) e
   exact h.run pins _ σ H xs _ Q I1 (by simpa using rv) hw
def setσ : St → List Nat → List V → St
 | σ, i :: is, v :: vs => setσ (σ.set i (some v)) is vs
 | σ, _, _ => σ
def gNames (is : List Nat) : TGs := fun vs σ H Q => vs.length = is.length ∧ Q (setσ σ is vs) H
section
variable {W : Wd} {G : Stat} {S : Sc} {k : Nat} {h : Bool} {cc : CC} {X : Cx} {wx : WX}
theorem asEach_names : ∀ {is : List Nat} {es : List Expr} {env : PySem.Env}, is.length = es.length → ((is.zip es).all fun p => match p.2 with
   | .Name x _ => decide (cc.N[p.1]? = some x) && isLoc cc x
   | _ => false) = true → (assignEach es env).length = is.length ∧ (assignEach es env).findIdx? (·.1) = none
 | [], [], _, _, _ => ⟨rfl, rfl⟩
 | i :: is, e :: es, env, hl, hc => by
   rw [List.zip_cons_cons, List.all_cons, Bool.and_eq_true] at hc
   obtain ⟨h1, h2⟩ := hc
   obtain ⟨h3, h4⟩ := asEach_names (env := env) (Nat.succ.inj hl) h2
   cases e with
   | Name x p =>
     have e1 : assignEach (.Name x p :: es) env = (false, assign (.Name x p) env) :: assignEach es env := rfl
     rw [e1]
     refine ⟨by simp [h3], ?_⟩
     rw [List.findIdx?_cons]
     simp [h4]
   | _ => cases h1
 | [], _ :: _, _, hl, _ => nomatch hl
 | _ :: _, [], _, hl, _ => nomatch hl
theorem pgs_names (hN : X.N.Nodup) (eN : X.N = cc.N) (hloc : ∀ x, isLoc cc x = true → L2.Loc X.env.scope x ∧ (X.fn x = true ∨ X.env.scope.names.lookup x = some .local)) : ∀ {is : List Nat} {es : List Expr}, is.length = es.length → ((is.zip es).all fun p => match p.2 with
   | .Name x _ => decide (cc.N[p.1]? = some x) && isLoc cc x
   | _ => false) = true → PGs X es (gNames is)
 | [], [], _, _ => ⟨fun pins s σ H vs us Q I r h => (pgs_nil (X := X)).run pins s σ H vs us Q I r ⟨List.length_eq_zero_iff.mp h.1, by
     obtain ⟨h1, h2⟩ := h
     cases vs with
     | nil => exact h2
     | cons _ _ => cases h1⟩⟩
 | i :: is, e :: es, hl, hc => by
   rw [List.zip_cons_cons, List.all_cons, Bool.and_eq_true] at hc
   obtain ⟨h1, h2⟩ := hc
   have ih := pgs_names hN eN hloc (Nat.succ.inj hl) h2
   cases e with
   | Name x p =>
     have h1 : (decide (cc.N[i]? = some x) && isLoc cc x) = true := h1
     rw [Bool.and_eq_true] at h1
     obtain ⟨q1, q2⟩ := hloc x h1.2
     have p1 : PG X (.Name x p) (gName i) := pg_name hN (by rw [eN]; exact of_decide_eq_true h1.1) q1 q2
     refine ⟨fun pins s σ H vs us Q I r h => (pgs_cons p1 ih rfl).run pins s σ H vs us Q I r ?_⟩
     obtain ⟨hl2, hq⟩ := h
     cases vs with
     | nil => cases hl2
     | cons v vs => exact ⟨v, vs, rfl, Nat.succ.inj hl2, hq⟩
   | _ => cases h1
 | [], _ :: _, hl, _ => nomatch hl
 | _ :: _, [], hl, _ => nomatch hl
def gT (W : Wd) (S : Sc) (tg : Tg) (ns : List Nat) : TG := fun v σ H Q => ∃ ι ρ M z ρ', Rl W S ι σ H ρ M ∧ DenZ W.K ι H v z ∧ bindT tg ρ z = some ρ' ∧ ∀ σ', SR W.K S ι H σ' ρ' → wipe σ' ns = wipe σ ns → Q σ' H
theorem wipe_set {σ : St} {i : Nat} {v : Option V} : ∀ {ns : List Nat}, i ∈ ns → wipe (σ.set i v) ns = wipe σ ns
 | [], h => nomatch h
 | n :: ns, h => by
   show (wipe (σ.set i v) ns).set n none = (wipe σ ns).set n none
   by_cases hi : i ∈ ns
   · rw [wipe_set hi]
   · have hn : i = n := by simpa [hi] using h
     subst hn
     have key : ∀ (ns : List Nat) (τ : St), i ∉ ns → (wipe (τ.set i v) ns) = (wipe τ ns).set i v := fun ns => by
       induction ns with
       | nil => intro _ _; rfl
       | cons m ms ih =>
         intro τ hm
         have hm1 : i ≠ m := fun e => hm (by rw [e]; exact List.mem_cons_self)
         have hm2 : i ∉ ms := fun e => hm (List.mem_cons_of_mem _ e)
         show (wipe (τ.set i v) ms).set m none = ((wipe τ ms).set m none).set i v
         rw [ih τ hm2, List.set_comm _ _ hm1]
     rw [key ns σ hi]
     simp
theorem wipe_setσ : ∀ {is : List Nat} {vs : List V} {σ : St} {ns : List Nat}, (∀ i ∈ is, i ∈ ns) → wipe (setσ σ is vs) ns = wipe σ ns
 | [], vs, σ, ns, _ => by cases vs <;> rfl
 | i :: is, [], σ, ns, _ => rfl
 | i :: is, v :: vs, σ, ns, h => by
   show wipe (setσ (σ.set i (some v)) is vs) ns = _
   rw [wipe_setσ fun j hj => h j (List.mem_cons_of_mem _ hj)]
   exact wipe_set (h i List.mem_cons_self)
theorem sr_setAll {K : PySem.W.Frag} {ι : Io} {H : Hp} : ∀ {is : List Nat} {vs : List V} {ds : List D} {σ : St} {ρ ρ' : Env}, SR K S ι H σ ρ → DenL K ι H vs ds → setAll ρ is ds = some ρ' → SR K S ι H (setσ σ is vs) ρ'
 | [], _, [], σ, ρ, ρ', s, l, e => by
   cases l
   cases e
   exact s
 | [], _, _ :: _, σ, ρ, ρ', s, l, e => nomatch e
 | i :: is, _, [], σ, ρ, ρ', s, l, e => nomatch e
 | i :: is, _, d :: ds, σ, ρ, ρ', s, l, e => by
   cases l with
   | @cons v vs _ _ d1 l1 =>
     show SR K S ι H (setσ (σ.set i (some v)) is vs) ρ'
     exact sr_setAll (ρ := ρ.set i (.z (.d d))) (s.set i (.d d1)) l1 e
theorem j_tg (hm : Hh.Md X) (eK : X.K = W.K) (hN : X.N.Nodup) (eN : X.N = cc.N) (hloc : ∀ x, isLoc cc x = true → L2.Loc X.env.scope x ∧ (X.fn x = true ∨ X.env.scope.names.lookup x = some .local)) {tg : Tg} {e : Expr} {ns : List Nat} (hc : chkTg cc tg e = true) (hns : ∀ i ∈ tg.ids, i ∈ ns) : PG X e (gT W S tg ns) := by
 cases tg with
 | nm i =>
   cases e with
   | Name x p =>
     have hc : (decide (cc.N[i]? = some x) && isLoc cc x) = true := hc
     rw [Bool.and_eq_true] at hc
     obtain ⟨q1, q2⟩ := hloc x hc.2
     have p1 : PG X (.Name x p) (gName i) := pg_name hN (by rw [eN]; exact of_decide_eq_true hc.1) q1 q2
     refine ⟨fun pins s σ H v u Q I r hq => p1.run pins s σ H v u Q I r ?_⟩
     obtain ⟨ι, ρ, M, z, ρ', rl, d, e, q⟩ := hq
     cases e
     exact q _ (rl.s.set i d) (wipe_set (hns i (by simp [Tg.ids])))
   | _ => cases hc
 | tp is =>
   cases e with
   | Tuple es kx p =>
     have hc : (decide (is.length = es.length) && (is.zip es).all fun p => match p.2 with
       | .Name x _ => decide (cc.N[p.1]? = some x) && isLoc cc x
       | _ => false) = true := hc
     rw [Bool.and_eq_true] at hc
     have hl := of_decide_eq_true hc.1
     obtain ⟨a1, a2⟩ := asEach_names (env := X.env) hl hc.2
     have p1 := pg_tupM (pos := p) (k := kx) hm (pgs_names hN eN hloc hl hc.2) a1 a2
     refine ⟨fun pins s σ H v u Q I r hq => p1.run pins s σ H v u Q I r ?_⟩
     obtain ⟨ι, ρ, M, z, ρ', rl, d, e, q⟩ := hq
     cases d with
     | r _ => cases e
     | f _ => cases e
     | d d =>
       cases d with
       | @tup a xs ds h1 l1 =>
         have e : (if ds.length = is.length then setAll ρ is ds else none) = some ρ' := e
         split at e
         · rename_i hlen
           obtain ⟨a', xs', e1, _, sq, l2⟩ := (Den.tup h1 l1).tup_inv
           cases e1
           exact ⟨a, xs', rfl, by rw [eK]; exact sq, by rw [l2.length]; exact hlen, by rw [l2.length]; exact hlen, q _ (sr_setAll rl.s l2 e) (wipe_setσ hns)⟩
         · cases e
       | _ => cases e
   | _ => cases hc
end
end Zt
namespace Zt
open PySem PySem.Spec PyProof.Rows L2
structure Sv (W : Wd) (J : L2.It) (ι0 : Io) (H0 : Hp) (zs : List Z) : Prop where
 go : ∀ i ι H, Ext ι0 H0 ι H → i < zs.length → J.go i H
 stop : ∀ i ι H, Ext ι0 H0 ι H → zs.length ≤ i → J.stop i H
 yld : ∀ i ι H x H', Ext ι0 H0 ι H → (∀ a ∈ ι, H a ≠ none) → i < zs.length → J.yld i H x H' → ∃ z, zs[i]? = some z ∧ DenZ W.K ι H' x z ∧ Ext ι H ι H' ∧ ∀ M, MI W ι H M → MI W ι H' M
def relI (W : Wd) : Io → Hp → L2.It → List Z → Prop := fun ι H J zs => Sv W J ι H zs
abbrev iZ (W : Wd) (S : Sc) (wx : WX) (f : Env → Mem → R (List Z)) : TI := tG W S wx (relI W) f
theorem Sv.mono {W : Wd} {J : L2.It} {ι0 ι1 : Io} {H0 H1 : Hp} {zs : List Z} (s : Sv W J ι0 H0 zs) (e : Ext ι0 H0 ι1 H1) : Sv W J ι1 H1 zs :=
 ⟨fun i ι H x => s.go i ι H (e.trans x), fun i ι H x => s.stop i ι H (e.trans x), fun i ι H v H' x => s.yld i ι H v H' (e.trans x)⟩
section
variable {W : Wd} {ι0 : Io} {H0 : Hp}
theorem map_get {α β : Type} {f : α → β} {xs : List α} {i : Nat} {x : α} (h : xs[i]? = some x) : (xs.map f)[i]? = some (f x) := by rw [List.getElem?_map, h]; rfl
theorem get_of_lt {α : Type} {xs : List α} {i : Nat} (h : i < xs.length) : ∃ x, xs[i]? = some x := ⟨xs[i], List.getElem?_eq_getElem h⟩
theorem sv_list {a : Addr} {ds : List D} (d : Den W.K ι0 H0 (.ref a) (.list ds)) : Sv W (Itl W.K a) ι0 H0 (ds.map .d) := by
 refine ⟨fun i ι H e hi => ?_, fun i ι H e hi => ?_, fun i ι H x H' e hl hi hy => ?_⟩
 · obtain ⟨b, xs, e1, _, sq, l⟩ := (d.mono e).list_inv
   cases e1
   obtain ⟨x, hx⟩ := get_of_lt (show i < xs.length by rw [l.length]; simpa using hi)
   exact ⟨xs, x, sq, hx⟩
 · obtain ⟨b, xs, e1, _, sq, l⟩ := (d.mono e).list_inv
   cases e1
   exact ⟨xs, sq, by rw [l.length]; simpa using hi⟩
 · obtain ⟨b, xs, e1, _, sq, l⟩ := (d.mono e).list_inv
   cases e1
   obtain ⟨e2, hx⟩ := hy
   subst e2
   obtain ⟨y, h1, h2⟩ := l.get' (hx xs sq)
   exact ⟨_, map_get h1, .d h2, Ext.refl _ _, fun _ m => m⟩
theorem sv_tup {a : Addr} {ds : List D} (d : Den W.K ι0 H0 (.ref a) (.tuple ds)) : Sv W (Itt W.K a) ι0 H0 (ds.map .d) := by
 refine ⟨fun i ι H e hi => ?_, fun i ι H e hi => ?_, fun i ι H x H' e hl hi hy => ?_⟩
 · obtain ⟨b, xs, e1, _, sq, l⟩ := (d.mono e).tup_inv
   cases e1
   obtain ⟨x, hx⟩ := get_of_lt (show i < xs.length by rw [l.length]; simpa using hi)
   exact ⟨xs, x, sq, hx⟩
 · obtain ⟨b, xs, e1, _, sq, l⟩ := (d.mono e).tup_inv
   cases e1
   exact ⟨xs, sq, by rw [l.length]; simpa using hi⟩
 · obtain ⟨b, xs, e1, _, sq, l⟩ := (d.mono e).tup_inv
   cases e1
   obtain ⟨e2, hx⟩ := hy
   subst e2
   obtain ⟨y, h1, h2⟩ := l.get' (hx xs sq)
   exact ⟨_, map_get h1, .d h2, Ext.refl _ _, fun _ m => m⟩
theorem sv_str {x : Str} : Sv W (Its x) ι0 H0 ((signsOf x).map .d) := by
 have hl : ((signsOf x).map Z.d).length = x.cps.size := by simp [signsOf]
 refine ⟨fun i ι H e hi => (by rw [hl] at hi; exact hi), fun i ι H e hi => (by rw [hl] at hi; exact hi), fun i ι H v H' e hl hi hy => ?_⟩
 obtain ⟨e2, c, hc, hv⟩ := hy
 subst e2 hv
 exact ⟨_, map_get (f := Z.d) (x := .str ⟨#[c]⟩) (by simp only [signsOf, List.getElem?_map, Array.getElem?_toList, hc]; rfl), .d (.str _), Ext.refl _ _, fun _ m => m⟩
theorem sv_rng {lo hi : Int} : Sv W (Itr lo (hi - lo).toNat) ι0 H0 (rngZ lo hi) := by
 have hl : (rngZ lo hi).length = (hi - lo).toNat := by simp [rngZ]
 refine ⟨fun i ι H e hi => (by rw [hl] at hi; exact hi), fun i ι H e hi => (by rw [hl] at hi; exact hi), fun i ι H v H' e hl2 hi2 hy => ?_⟩
 obtain ⟨e2, hv⟩ := hy
 subst e2 hv
 refine ⟨.d (.int (lo + i)), ?_, .d (.int _), Ext.refl _ _, fun _ m => m⟩
 rw [hl] at hi2
 simp [rngZ, hi2]
theorem zip_get {α β : Type} {xs : List α} {ys : List β} {i : Nat} {x : α} {y : β} (h1 : xs[i]? = some x) (h2 : ys[i]? = some y) : (xs.zip ys)[i]? = some (x, y) := by
 simp [List.getElem?_zip_eq_some, h1, h2]
def seqD : Bool → List D → D
 | true, ds => .tuple ds
 | false, ds => .list ds
theorem den_seq {c : Bool} {ι : Io} {H : Hp} {v : V} {ds : List D} (d : Den W.K ι H v (seqD c ds)) : ∃ a xs, v = .ref a ∧ Hh.SqX c W.K H a xs ∧ DenL W.K ι H xs ds := by
 cases c with
 | true =>
   obtain ⟨b, xs, e1, _, sq, l⟩ := Den.tup_inv d
   exact ⟨b, xs, e1, sq, l⟩
 | false =>
   obtain ⟨b, xs, e1, _, sq, l⟩ := Den.list_inv d
   exact ⟨b, xs, e1, sq, l⟩
theorem sv_zip {c d : Bool} {a b : Addr} {ds es : List D} (h1 : Den W.K ι0 H0 (.ref a) (seqD c ds)) (h2 : Den W.K ι0 H0 (.ref b) (seqD d es)) : Sv W (Hh.Itz2 W.K c d a b) ι0 H0 (zipZ ds es) := by
 have hlen : (zipZ ds es).length = min ds.length es.length := by simp [zipZ]
 refine ⟨fun i ι H e hi => ?_, fun i ι H e hi => ?_, fun i ι H x H' e hl hi hy => ?_⟩
 · obtain ⟨_, xs, e1, sq, l⟩ := den_seq (h1.mono e)
   obtain ⟨_, ys, e2, sq2, l2⟩ := den_seq (h2.mono e)
   cases e1
   cases e2
   rw [hlen] at hi
   obtain ⟨x, hx⟩ := get_of_lt (show i < xs.length by rw [l.length]; omega)
   obtain ⟨y, hy⟩ := get_of_lt (show i < ys.length by rw [l2.length]; omega)
   exact ⟨xs, ys, x, y, sq, sq2, hx, hy⟩
 · obtain ⟨_, xs, e1, sq, l⟩ := den_seq (h1.mono e)
   obtain ⟨_, ys, e2, sq2, l2⟩ := den_seq (h2.mono e)
   cases e1
   cases e2
   rw [hlen] at hi
   refine ⟨xs, ys, sq, sq2, ?_⟩
   rw [l.length, l2.length]
   omega
 · obtain ⟨_, xs, e1, sq, l⟩ := den_seq (h1.mono e)
   obtain ⟨_, ys, e2, sq2, l2⟩ := den_seq (h2.mono e)
   cases e1
   cases e2
   obtain ⟨T, u, v, hx, hT, hH, k1, k2⟩ := hy
   subst hx hH
   obtain ⟨p, p1, p2⟩ := l.get' (k1 xs sq)
   obtain ⟨q, q1, q2⟩ := l2.get' (k2 ys sq2)
   exact ⟨_, map_get (f := fun p : D × D => Z.d (.tuple [p.1, p.2])) (zip_get p1 q1), .d (.newT hl hT (.cons p2 (.cons q2 .nil))), Ext.new hT, fun _ m => m.new hT⟩
theorem enum_get : ∀ {xs : List D} {k i : Nat} {x : D}, xs[i]? = some x → (enumZ k xs)[i]? = some (.d (.tuple [.int ((k + i : Nat) : Int), x]))
 | [], _, _, _, h => nomatch h
 | y :: xs, k, 0, x, h => by
   cases h
   rfl
 | y :: xs, k, i + 1, x, h => by
   show (enumZ (k + 1) xs)[i]? = _
   rw [enum_get (k := k + 1) (i := i) h]
   have : k + 1 + i = k + (i + 1) := by omega
   rw [this]
theorem enum_len : ∀ {xs : List D} {k : Nat}, (enumZ k xs).length = xs.length
 | [], _ => rfl
 | y :: xs, k => by
   show (enumZ (k + 1) xs).length + 1 = xs.length + 1
   rw [enum_len]
theorem sv_enum {a : Addr} {ds : List D} (d : Den W.K ι0 H0 (.ref a) (.list ds)) : Sv W (Ite W.K a) ι0 H0 (enumZ 0 ds) := by
 refine ⟨fun i ι H e hi => ?_, fun i ι H e hi => ?_, fun i ι H x H' e hl hi hy => ?_⟩
 · obtain ⟨b, xs, e1, _, sq, l⟩ := (d.mono e).list_inv
   cases e1
   obtain ⟨x, hx⟩ := get_of_lt (show i < xs.length by rw [l.length]; rw [enum_len] at hi; exact hi)
   exact ⟨xs, x, sq, hx⟩
 · obtain ⟨b, xs, e1, _, sq, l⟩ := (d.mono e).list_inv
   cases e1
   exact ⟨xs, sq, by rw [l.length]; rw [enum_len] at hi; exact hi⟩
 · obtain ⟨b, xs, e1, _, sq, l⟩ := (d.mono e).list_inv
   cases e1
   obtain ⟨T, u, hx, hT, hH, k1⟩ := hy
   subst hx hH
   obtain ⟨p, p1, p2⟩ := l.get' (k1 xs sq)
   refine ⟨_, enum_get p1, .d ?_, Ext.new hT, fun _ m => m.new hT⟩
   rw [Nat.zero_add]
   exact .newT hl hT (.cons (.int _) (.cons p2 .nil))
end
end Zt
namespace Zt
open PySem PySem.Spec PyProof.Rows L2
def MdH (h : Bool) (X : Cx) : Prop := (h = false → X.calm = true) ∧ (h = true → L2H.HotC X)
theorem MdH.md {h : Bool} {X : Cx} (m : MdH h X) : Hh.Md X := by
 cases h with
 | false => exact .inl (m.1 rfl)
 | true => exact .inr (m.2 rfl)
theorem MdH.cm {h : Bool} {X : Cx} (m : MdH h X) (e : h = false) : Hh.Cm X := m.1 e
theorem pit_list {X : Cx} {tg : Expr} {pins : List (Addr × Obj)} {σ : St} {H : Hp} {s : Shared} {a : Addr} {xs : List V} {R : L2.It → Hp → Prop} (I : Inv X pins σ H s) (hq : SqL X.K H a xs) (hr : R (Itl X.K a) H) :
   wpAny (model X.prog X.w) X.A (pyIter (.ref a)) (Hh.PIEM Hh.Md X pins σ tg R) X.xe s := by
 obtain ⟨its, rv, p, hz⟩ := I.list hq
 refine wpAny_pyIter_list p.isList ?_
 have hn : H s.heap.objs.size = none := I.hok.fresh (Nat.le_refl _)
 have I2 : Inv X pins σ H { s with heap := s.heap.push { cls := .type "list_iterator", data := .fields #[.ref a, .int 0 0] } } := I.kept (t' := s.toks) fun b o e => Heap.get?_push_of_some _ e
 exact ⟨_, [s.heap.objs.size], _, _, H, rfl, I2, Hh.turn_L a _, ⟨_, Heap.get?_push_size _ rfl, rfl, rfl⟩, fun b hb => by
   have e : b = s.heap.objs.size := by simpa using hb
   rw [e]
   exact I.fpOk (Nat.le_refl _) hn, hr⟩
theorem pit_tup {X : Cx} {tg : Expr} {pins : List (Addr × Obj)} {σ : St} {H : Hp} {s : Shared} {a : Addr} {xs : List V} {R : L2.It → Hp → Prop} (I : Inv X pins σ H s) (hq : SqT X.K H a xs) (hr : R (Itt X.K a) H) :
   wpAny (model X.prog X.w) X.A (pyIter (.ref a)) (Hh.PIEM Hh.Md X pins σ tg R) X.xe s := by
 obtain ⟨its, rv, p, hz⟩ := I.tuple hq
 refine wpAny_pyIter_tuple (show s.heap.IsTuple a its.toArray from p) ?_
 have hn : H s.heap.objs.size = none := I.hok.fresh (Nat.le_refl _)
 have I2 : Inv X pins σ H { s with heap := s.heap.push { cls := .type "tuple_iterator", data := .fields #[.ref a, .int 0 0] } } := I.kept (t' := s.toks) fun b o e => Heap.get?_push_of_some _ e
 exact ⟨_, [s.heap.objs.size], _, _, H, rfl, I2, Hh.turn_T a _, ⟨_, Heap.get?_push_size _ rfl, rfl, rfl⟩, fun b hb => by
   have e : b = s.heap.objs.size := by simpa using hb
   rw [e]
   exact I.fpOk (Nat.le_refl _) hn, hr⟩
theorem piem_of {X : Cx} {tg : Expr} {pins : List (Addr × Obj)} {σ : St} {R : L2.It → Hp → Prop} {v : Value} {s : Shared} (h : PIE X pins σ tg R v s) : Hh.PIEM Hh.Cm X pins σ tg R v s := by
 obtain ⟨it, fp, tn, J, H', e, I', T, t0, hf, r⟩ := h
 exact ⟨it, fp, tn, J, H', e, I', .of T, t0, hf, r⟩
theorem piem_weak {md md' : Cx → Prop} {X : Cx} {tg : Expr} {pins : List (Addr × Obj)} {σ : St} {R : L2.It → Hp → Prop} {v : Value} {s : Shared} (h : Hh.PIEM md X pins σ tg R v s) (k : ∀ X, md' X → md X) : Hh.PIEM md' X pins σ tg R v s := by
 obtain ⟨it, fp, tn, J, H', e, I', T, t0, hf, r⟩ := h
 exact ⟨it, fp, tn, J, H', e, I', T.weak k, t0, hf, r⟩
theorem pit_str {X : Cx} {tg : Expr} {pins : List (Addr × Obj)} {σ : St} {H : Hp} {s : Shared} {x : Str} {u : Value} {R : L2.It → Hp → Prop} (I : Inv X pins σ H s) (hu : L2.RelV (.str x) u) (q : R (Its x) H) :
   wpAny (model X.prog X.w) X.A (pyIter u) (Hh.PIEM Hh.Cm X pins σ tg R) X.xe s := by
 obtain ⟨t, rfl⟩ := hu
 cases ha : x.cps.all (· < 128)
 · exact wpAny_pyIter_wide ha (piem_of (pi_one (tk := s.toks) I _ (turn_str _ x t "str_iterator" (.inr rfl)) ⟨_, Heap.get?_push_size _ rfl, rfl, rfl⟩ q))
 · exact wpAny_pyIter_ascii ha (piem_of (pi_one (tk := s.toks) I _ (turn_str _ x t "str_ascii_iterator" (.inl rfl)) ⟨_, Heap.get?_push_size _ rfl, rfl, rfl⟩ q))
section
variable {W : Wd} {G : Stat} {S : Sc} {k : Nat} {h : Bool} {cc : CC} {X : Cx} {wx : WX}
theorem EndG.ofo {σ : St} {ι : Io} {H : Hp} {α β : Type} {rel : Io → Hp → β → α → Prop} {Q : β → Hp → Prop} {M : Mem} {o : Option α} (e : EndG W wx σ ι H rel Q (R.of o M)) : ∃ z, o = some z ∧ EndG W wx σ ι H rel Q (.ok z M) := by
 cases o with
 | none => exact e.elim
 | some z => exact ⟨z, rfl, e⟩
theorem pj_it (g : GX W G S k h cc X wx) {tg e : Expr} {f : Env → Mem → R Z} (he : PE X e (tD W S wx f)) :
   Hh.PIM (MdH h) X tg e (iZ W S wx fun ρ M => (f ρ M).bind fun x M1 => R.of (itH h x) M1) := by
 refine ⟨fun pins s σ H RR I q => ?_⟩
 obtain ⟨ι, ρ, M, rl, q⟩ := q
 dsimp only at q
 refine thn (he.run pins s σ H _ I ⟨ι, ρ, M, rl, q.step fun z M1 ι1 v1 H1 ex m d e1 => show ∃ ι1 z M1, MI W ι1 H1 M1 ∧ DenZ W.K ι1 H1 v1 z ∧ EndG W wx σ ι1 H1 (relI W) RR (R.of (itH h z) M1) from ⟨ι1, z, M1, m, d, e1⟩⟩) fun v s1 ⟨x, H1, I1, r1, ι1, z, M1, m, d, e1⟩ => ?_
 obtain ⟨zs, ez, e1⟩ := EndG.ofo e1
 cases d with
 | r _ => cases h <;> cases ez
 | f _ => cases h <;> cases ez
 | @d _ y d =>
   cases d with
   | @lst a xs ds h1 l =>
     have ez : some (ds.map Z.d) = some zs := by cases h <;> exact ez
     cases ez
     obtain ⟨_, _, e2, _, sq, _⟩ := (Den.lst h1 l).list_inv
     cases e2
     cases r1
     exact thn (pit_list I1 (by rw [g.eK]; exact sq) (EndG.now e1 m (by rw [g.eK]; exact sv_list (.lst h1 l)))) fun v s2 z => piem_weak z fun _ => MdH.md
   | @tup a xs ds h1 l =>
     have ez : some (ds.map Z.d) = some zs := by cases h <;> exact ez
     cases ez
     obtain ⟨_, _, e2, _, sq, _⟩ := (Den.tup h1 l).tup_inv
     cases e2
     cases r1
     exact thn (pit_tup I1 (by rw [g.eK]; exact sq) (EndG.now e1 m (by rw [g.eK]; exact sv_tup (.tup h1 l)))) fun v s2 z => piem_weak z fun _ => MdH.md
   | str x =>
     cases h with
     | true => cases ez
     | false =>
       cases ez
       exact thn (pit_str I1 r1 (EndG.now e1 m sv_str)) fun v s2 z => piem_weak z fun _ z => z.cm rfl
   | _ => cases h <;> cases ez
theorem pi_range1M {h : Bool} {X : Cx} {tg a : Expr} {ta : TA} {p pos : Pos} (hg : Gl X "range") (hm : X.mg "range" = none) (ha : PA X [a] ta) (hs : starEach [a] X.env = [(false, eval a X.env)]) : Hh.PIM (MdH h) X tg (.Call (.Name "range" p) [a] [] pos) (iRng1 ta) := by
 cases h with
 | true => exact (Hh.PIM.ofH (L2H.pi_range1H hg hm ha hs)).weak fun _ z => z.2 rfl
 | false => exact (Hh.PIM.of (pi_range1 hg hm ha hs)).weak fun _ z => z.cm rfl
theorem pi_range2M {h : Bool} {X : Cx} {tg a b : Expr} {ta : TA} {p pos : Pos} (hg : Gl X "range") (hm : X.mg "range" = none) (ha : PA X [a, b] ta) (hs : starEach [a, b] X.env = [(false, eval a X.env), (false, eval b X.env)]) (hs2 : starEach [b] X.env = [(false, eval b X.env)]) : Hh.PIM (MdH h) X tg (.Call (.Name "range" p) [a, b] [] pos) (iRng2 ta) := by
 cases h with
 | true => exact (Hh.PIM.ofH (Hh.pi_range2H hg hm ha hs hs2)).weak fun _ z => z.2 rfl
 | false => exact (Hh.PIM.of (pi_range2 hg hm ha hs hs2)).weak fun _ z => z.cm rfl
theorem pj_rng1 (g : GX W G S k h cc X wx) {tg e : Expr} {f : Env → Mem → R Z} {p pos : Pos} (he : PE X e (tD W S wx f)) (hn : notStar e = true) (hg : isGlob cc ("range" : Str) = true) :
   Hh.PIM (MdH h) X tg (.Call (.Name ("range" : Str) p) [e] [] pos) (iZ W S wx fun ρ M => (f ρ M).bind fun x M1 => match x with
   | .d (.int i) => if i < 2 ^ 62 ∧ -(2 ^ 62) ≤ i then .ok (rngZ 0 i) M1 else .bad
   | _ => .bad) := by
   refine (pi_range1M (h := h) (g.gl hg) (g.blt (by decide +kernel)) (pa_cons he pa_nil (star1 hn)) (star1 hn)).imp fun σ H RR hq => ?_
   obtain ⟨ι, ρ, M, rl, e⟩ := hq
   dsimp only at e
   refine ⟨ι, ρ, M, rl, e.step fun z M1 ι1 v1 H1 ex m d e1 => ?_⟩
   split at e1
   · rename_i i
     cases d with
     | d d =>
       cases d
       split at e1
       · rename_i hc
         refine ⟨i, rfl, hc.2, hc.1, EndG.now e1 m ?_⟩
         have := sv_rng (W := W) (ι0 := ι1) (H0 := H1) (lo := 0) (hi := i)
         rw [Int.sub_zero] at this
         exact this
       · exact e1.elim
   · exact e1.elim
theorem pj_rng2 (g : GX W G S k h cc X wx) {tg e1 e2 : Expr} {f f2 : Env → Mem → R Z} {p pos : Pos} (he : PE X e1 (tD W S wx f)) (he2 : PE X e2 (tD W S wx f2)) (hn : notStar e1 = true) (hn2 : notStar e2 = true) (hg : isGlob cc ("range" : Str) = true) :
   Hh.PIM (MdH h) X tg (.Call (.Name ("range" : Str) p) [e1, e2] [] pos) (iZ W S wx fun ρ M => (f ρ M).bind fun x M1 => (f2 ρ M1).bind fun y M2 => match x, y with
   | .d (.int i), .d (.int j) => if (i < 2 ^ 62 ∧ -(2 ^ 62) ≤ i) ∧ j < 2 ^ 62 ∧ -(2 ^ 62) ≤ j then .ok (rngZ i j) M2 else .bad
   | _, _ => .bad) := by
   refine (pi_range2M (h := h) (g.gl hg) (g.blt (by decide +kernel)) (pa_cons he (pa_cons he2 pa_nil (star1 hn2)) ((star_of hn))) ((star_of hn).trans (by rw [star1 hn2])) (star1 hn2)).imp fun σ H RR hq => ?_
   obtain ⟨ι, ρ, M, rl, e⟩ := hq
   dsimp only at e
   refine ⟨ι, ρ, M, rl, e.step fun z M1 ι1 v1 H1 ex m d e1 => ⟨ι1, ρ, M1, rl.go ex m, e1.step fun z2 M2 ι2 v2 H2 ex2 m2 d2 e2 => ?_⟩⟩
   have dd := d.mono ex2
   split at e2
   · rename_i i j
     cases dd with
     | d d' =>
       cases d'
       cases d2 with
       | d d2 =>
         cases d2
         split at e2
         · rename_i hc
           exact ⟨i, j, rfl, ⟨hc.1.2, hc.1.1, hc.2.2, hc.2.1⟩, EndG.now e2 m2 sv_rng⟩
         · exact e2.elim
   · exact e2.elim
theorem seq_of {x : D} {xs : List D} (e : seqOf x = some xs) : ∃ c, x = seqD c xs := by
 cases x with
 | list l => cases e; exact ⟨false, rfl⟩
 | tuple l => cases e; exact ⟨true, rfl⟩
 | _ => cases e
theorem pj_zip (g : GX W G S k h cc X wx) {t e1 e2 : Expr} {f f2 : Env → Mem → R Z} {p pos : Pos} (ht : (!(notTup t)) = true) (he : PE X e1 (tD W S wx f)) (he2 : PE X e2 (tD W S wx f2)) (hn : notStar e1 = true) (hn2 : notStar e2 = true) (hg : isGlob cc ("zip" : Str) = true) :
   Hh.PIM (MdH h) X t (.Call (.Name ("zip" : Str) p) [e1, e2] [] pos) (iZ W S wx fun ρ M => (f ρ M).bind fun x M1 => (f2 ρ M1).bind fun y M2 => match x, y with
   | .d x, .d y => R.of ((seqOf x).bind fun xs => (seqOf y).map fun ys => zipZ xs ys) M2
   | _, _ => .bad) := by
 cases t with
 | Tuple es kk tp =>
   refine ((Hh.pim_zip (g.gl hg) (g.blt (by decide +kernel)) (pa_cons he (pa_cons he2 pa_nil (star1 hn2)) (star_of hn)) (star_of hn) (by
     rw [star1 hn2] <;> rfl)).imp fun σ H RR hq => ?_).weak fun _ z => z.md
   obtain ⟨ι, ρ, M, rl, e⟩ := hq
   dsimp only at e
   refine ⟨ι, ρ, M, rl, e.step fun z M1 ι1 v1 H1 ex m d e1 => ⟨ι1, ρ, M1, rl.go ex m, e1.step fun z2 M2 ι2 v2 H2 ex2 m2 d2 e2 => ?_⟩⟩
   have dd := d.mono ex2
   cases dd with
   | r _ => exact e2.elim
   | f _ => exact e2.elim
   | @d _ x d' =>
     cases d2 with
     | r _ => exact e2.elim
     | f _ => exact e2.elim
     | @d _ y d2 =>
       obtain ⟨zs, ez, e2⟩ := EndG.ofo e2
       obtain ⟨xs, q1, q2⟩ := Option.bind_eq_some_iff.mp ez
       obtain ⟨ys, q3, q4⟩ := Option.map_eq_some_iff.mp q2
       obtain ⟨c, rfl⟩ := seq_of q1
       obtain ⟨c2, rfl⟩ := seq_of q3
       subst q4
       obtain ⟨a, us, rfl, sq, _⟩ := den_seq d'
       obtain ⟨b, ws, rfl, sq2, _⟩ := den_seq d2
       exact ⟨c, c2, a, b, us, ws, rfl, by rw [g.eK]; exact sq, by rw [g.eK]; exact sq2, EndG.now e2 m2 (by rw [g.eK]; exact sv_zip d' d2)⟩
 | _ => cases ht
theorem pj_enum (g : GX W G S k h cc X wx) {t e : Expr} {f : Env → Mem → R Z} {p pos : Pos} (ht : (!(notTup t)) = true) (he : PE X e (tD W S wx f)) (hn : notStar e = true) (hg : isGlob cc ("enumerate" : Str) = true) :
   Hh.PIM (MdH h) X t (.Call (.Name ("enumerate" : Str) p) [e] [] pos) (iZ W S wx fun ρ M => if h then .bad else (f ρ M).bind fun x M1 => match x with
   | .d (.list xs) => .ok (enumZ 0 xs) M1
   | _ => .bad) := by
 cases h with
 | true => exact ⟨fun pins s σ H RR I ⟨ι, ρ, M, rl, q⟩ => q.elim⟩
 | false =>
   cases t with
   | Tuple es kk tp =>
     refine ((Hh.PIM.of (pi_enum (g.gl hg) (g.blt (by decide +kernel)) (pa_cons he pa_nil (star1 hn)) (star1 hn))).imp fun σ H RR hq => ?_).weak fun _ z => z.cm rfl
     obtain ⟨ι, ρ, M, rl, e⟩ := hq
     dsimp only at e
     rw [if_neg Bool.false_ne_true] at e
     refine ⟨ι, ρ, M, rl, e.step fun z M1 ι1 v1 H1 ex m d e1 => ?_⟩
     cases d with
     | r _ => exact e1.elim
     | f _ => exact e1.elim
     | d d =>
       cases d with
       | @lst a xs ds h1 l =>
         obtain ⟨_, _, e2, _, sq, _⟩ := (Den.lst h1 l).list_inv
         cases e2
         exact ⟨_, _, rfl, by rw [g.eK]; exact sq, EndG.now e1 m (by rw [g.eK]; exact sv_enum (.lst h1 l))⟩
       | _ => exact e1.elim
   | _ => cases ht
theorem sv_fns {ι0 : Io} {H0 : Hp} {a : Addr} {is : List Nat} (h0 : a ∉ ι0 ∧ H0 a = some (.tup (is.map fun i => V.ref (ι0.fa.fn i)))) : Sv W (Itt W.K a) ι0 H0 (is.map Z.f) := by
 have hl : (is.map fun i => V.ref (ι0.fa.fn i)).length = (is.map Z.f).length := by simp
 refine ⟨fun i ι H e hi => ?_, fun i ι H e hi => ?_, fun i ι H x H' e hl' hi hy => ?_⟩
 · obtain ⟨x, hx⟩ := get_of_lt (show i < (is.map fun i => V.ref (ι0.fa.fn i)).length by rw [hl]; exact hi)
   exact ⟨_, x, .inl (.inl (stillT h0 e).2), hx⟩
 · exact ⟨_, .inl (.inl (stillT h0 e).2), by rw [hl]; exact hi⟩
 · obtain ⟨e2, hx⟩ := hy
   subst e2
   have h1 := hx _ (.inl (.inl (stillT h0 e).2))
   rw [List.getElem?_map] at h1
   cases q : is[i]? with
   | none => rw [q] at h1; cases h1
   | some j =>
     rw [q] at h1
     cases h1
     exact ⟨_, map_get (f := Z.f) q, .f (by rw [e.fns]), Ext.refl _ _, fun _ m => m⟩
theorem pa_fns (g : GX W G S k h cc X wx) : ∀ {is : List Nat} {ys : List Expr}, chkFns G cc is ys = true → PA X ys (fun σ H Q => Q (is.map fun i => V.ref (W.fa i)) H)
 | [], [], _ => pa_nil
 | [], _ :: _, hc => nomatch hc
 | _ :: _, [], hc => nomatch hc
 | i :: is, y :: ys, hc => by
   unfold chkFns at hc
   split at hc
   · rename_i h1 h2
     cases h1
   · rename_i i' is' y' p' ys' h1 h2
     cases h1
     cases h2
     simp only [Bool.and_eq_true, decide_eq_true_eq] at hc
     obtain ⟨⟨⟨h1, h2⟩, h3⟩, h4⟩ := hc
     obtain ⟨gm, _, _⟩ := g.ok.glob i y' h1
     obtain ⟨d1, d2, _⟩ := plain_dbg h3
     exact pa_cons (pe_glob (v := .ref (W.fa i)) (g.gl h2) (by rw [g.eM]; exact gm) rfl d1) (pa_fns g h4)
   · cases hc
theorem pj_fns (g : GX W G S k h cc X wx) {t : Expr} {is : List Nat} {ys : List Expr} {x1 : Nat} {pos : Pos} (hc : chkFns G cc is ys = true) (hl : is.length ≤ 100) :
   Hh.PIM (MdH h) X t (.Tuple ys x1 pos) (iZ W S wx fun _ M => .ok (is.map Z.f) M) := by
 refine ⟨fun pins s σ H RR I q => ?_⟩
 obtain ⟨ι, ρ, M, rl, q⟩ := q
 dsimp only at q
 refine thn ((pe_tup (pa_fns g hc)).run pins s σ H (fun v H1 => ∃ p, v = .ref p ∧ H p = none ∧ H1 = upd H p (.tup (is.map fun i => V.ref (W.fa i)))) I ⟨sl_of (by rw [List.length_map]; exact Nat.le_trans hl (by decide)), fun p hp => ⟨p, rfl, hp, rfl⟩⟩) fun v s1 ⟨x, H1, I1, r1, p, e1, hp, e2⟩ => ?_
 subst e1
 subst e2
 cases r1
 have hf : W.fa = ι.fa.fn := by rw [rl.m.f]
 refine thn (pit_tup I1 (.inl (.inl upd_same)) ?_) fun v s2 z => piem_weak z fun _ => MdH.md
 rw [g.eK]
 refine q ι _ _ (Ext.new hp) (rl.m.new hp) ?_
 refine sv_fns ⟨fun z => rl.m.has p z hp, ?_⟩
 rw [upd_same, hf]
end
end Zt
namespace Zt
open PySem PySem.Spec PyProof.Rows L2
def wx0 : WX := fun _ _ _ _ => False
theorem wipe_in {ns : List Nat} : ∀ {ms : List Nat} {σ : St}, (∀ i ∈ ms, i ∈ ns) → wipe (wipe σ ms) ns = wipe σ ns
 | [], σ, _ => rfl
 | m :: ms, σ, h => by
   show wipe ((wipe σ ms).set m none) ns = _
   rw [wipe_set (h m List.mem_cons_self)]
   exact wipe_in fun i hi => h i (List.mem_cons_of_mem _ hi)
section
variable {K : PySem.W.Frag} {ι ι' : Io} {H H' : Hp}
theorem Ext.touch {D : Addr} {o : HO} (e : Ext ι H ι' H') (h : H D = none) : Ext ι H ι' (upd H' D o) :=
 ⟨e.suf, e.exs, e.nin, fun a u q t ha => ⟨(e.keep a u q t ha).1, by
   rw [upd_ne (ne_of_none q h)]
   exact (e.keep a u q t ha).2⟩, e.fns, fun a u w q => by
   rw [upd_ne (ne_of_none q h)]
   exact e.fz a u w q⟩
theorem Ext.apart {D : Addr} (e : Ext ι H ι' H') (h1 : D ∈ ι.ex) (h2 : D ∉ ι.pl) {acc : List V} (h3 : H D = some (.lst acc)) : D ∈ ι'.ex ∧ D ∉ ι'.pl ∧ H' D = some (.lst acc) :=
 ⟨e.exs D h1, (e.keep D _ h3 nt_lst h2).1, (e.keep D _ h3 nt_lst h2).2⟩
variable {W : Wd} {M : Mem}
theorem MI.touch {D : Addr} {acc ac2 : List V} (m : MI W ι H M) (h1 : D ∈ ι.ex) (h2 : D ∉ ι.pl) (h3 : H D = some (.lst acc)) : MI W ι (upd H D (.lst ac2)) M :=
 ⟨m.m.touch nt_lst h1 h2, m.f, tabs_upd m.t (fun q hq z => m.o q hq (by rw [z]; exact .inr h1)) (fun c q e z => by
   rw [z, h3] at e
   cases e), m.o⟩
theorem MI.lock {D : Addr} {o : HO} (m : MI W ι H M) (ho : NT o) (h : H D = none) : MI W (ι.lock D) (upd H D o) M :=
 ⟨m.m.lock ho h, m.f, m.t.ext fun b u e => by rw [upd_ne (ne_of_none e h)]; exact e, fun q hq z => by
   rcases z with z | z
   · exact m.o q hq (.inl z)
   · rcases List.mem_cons.mp z with z | z
     · obtain ⟨ps, e, _⟩ := m.t q hq
       rw [z, h] at e
       cases e
     · exact m.o q hq (.inr z)⟩
theorem MI.anti (m : MI W ι H M) (hp : ι'.pl = ι.pl) (hf : ι'.fa = ι.fa) (hs : ∀ a ∈ ι'.ex, a ∈ ι.ex) : MI W ι' H M :=
 ⟨m.m.anti hp hf hs, hf.trans m.f, m.t, fun q hq z => m.o q hq (by
   rcases z with z | z
   · exact .inl (by rw [← hp]; exact z)
   · exact .inr (hs _ z))⟩
end
section
variable {W : Wd} {G : Stat} {S : Sc} {k : Nat} {h : Bool} {cc : CC} {X : Cx} {wx : WX}
theorem MdH.blk (m : MdH h X) (s : Shared) (H : Hp) (scope : Scope) (ce : PySem.Env) (fp : List Addr) (pins : List (Addr × Obj)) : MdH h (Hh.blkM X s H scope ce fp pins) :=
 ⟨m.1, fun e => by
   obtain ⟨p, a, b⟩ := m.2 e
   exact ⟨p, a, List.mem_append_left _ b⟩⟩
theorem GX.mdh (g : GX W G S k h cc X wx) : MdH h X := ⟨fun e => (g.calm e).1, g.hot⟩
theorem GX.blk (g : GX W G S k h cc X wx) (s : Shared) (H : Hp) (scope : Scope) (C : Addr) (cl : List (Str × Addr)) (fp : List Addr) (pins : List (Addr × Obj)) :
   GX W G S k h (blkCC cc scope) (Hh.blkM X s H scope (compEnvC scope cl C X.env) fp pins) wx0 where
 eP := g.eP
 eW := g.eW
 eK := g.eK
 eM := g.eM
 eB := g.eB
 eN := g.eN
 nd := g.nd
 eS := by
   show relS scope X.env.scope = relS scope cc.sc
   rw [g.eS]
 room := g.room
 calm := g.calm
 hot := (g.mdh.blk s H scope _ fp pins).2
 takes := fun _ _ x => by
   obtain ⟨_, _, _, _, _, _, _, _, _, _, _, _, _, _, _, _, z⟩ := x
   exact z.elim
 pass := PassesOwn.never
 st := fun _ e => e
 ok := g.ok
 calls := g.calls
 lam := fun e => nomatch e
 nx := g.nx
 fr := fun e => nomatch e
 xc := fun e => nomatch e
 xp := fun e => nomatch e
 xl := fun e => nomatch e
theorem GX.locs (g : GX W G S k h cc X wx) : ∀ x, isLoc cc x = true → L2.Loc X.env.scope x ∧ (X.fn x = true ∨ X.env.scope.names.lookup x = some .local) := fun x hx => g.loc hx
theorem g_tg (g : GX W G S k h cc X wx) {tg : Tg} {e : Expr} {ns : List Nat} (hc : chkTg cc tg e = true) (hns : ∀ i ∈ tg.ids, i ∈ ns) : PG X e (gT W S tg ns) :=
 j_tg g.mdh.md g.eK g.nd g.eN g.locs hc hns
theorem lc_rd {tg : Tg} {own : List Nat} {fI : Env → Mem → R (List Z)} {fc : Env → Mem → R Bool} {fe : Env → Mem → R Z} {σ : St} {H : Hp} {Q : VK} (hq : tD W S wx (fun ρ M => (fI ρ M).bind fun zs M1 => if zs.length ≤ llen then ((lcL fc fe tg (wipeE ρ own) zs M1).calm).bind fun ds M2 => .ok (.d (.list ds)) M2 else .bad) σ H Q) :
   tLc (iZ W S wx fI) (gT W S tg own) (tDT W S wx0 fc) (tD W S wx0 fe) own σ H Q := by
 obtain ⟨ι, ρ, M, rl, e⟩ := hq
 dsimp only at e
 refine ⟨ι, ρ, M, rl, e.step fun zs M1 ι1 J H1 ex m sv e1 => ?_⟩
 have sv : Sv W J ι1 H1 zs := sv
 have rl1 := rl.go ex m
 split at e1
 case isFalse => exact e1.elim
 rename_i hlen
 intro Dd hD
 generalize hr0 : ((lcL fc fe tg (wipeE ρ own) zs M1).calm.bind fun ds M2 => R.ok (Z.d (.list ds)) M2) = r0 at e1
 refine ⟨fun i m H2 => m = zs.length - i ∧ i ≤ zs.length ∧ ∃ ι2 M2 acc ds, Ext ι1 H1 ι2 H2 ∧ Dd ∈ ι2.ex ∧ Dd ∉ ι2.pl ∧ MI W ι2 H2 M2 ∧ H2 Dd = some (.lst acc) ∧ DenL W.K ι2 H2 acc ds ∧ ds.length ≤ i ∧
   ((lcL fc fe tg (wipeE ρ own) (zs.drop i) M2).calm.bind fun ds' M3 => R.ok (Z.d (.list (ds ++ ds'))) M3) = r0, ⟨zs.length, by simp, Nat.zero_le _, ι1.lock Dd, M1, [], [], Ext.lock hD, List.mem_cons_self, fun z => m.has Dd (.inl z) hD, m.lock nt_lst hD, upd_same, .nil, Nat.le_refl _, by simpa using hr0⟩, ?_⟩
 rintro i mm H2 ⟨rfl, hi2, ι2, M2, acc, ds, x2, d1, d2, m2, d3, l2, hl2, heq⟩
 by_cases hlt : i < zs.length
 case neg =>
   have e0 : i = zs.length := by omega
   refine .inl ⟨sv.stop i ι2 H2 x2 (by omega), ?_⟩
   rw [e0, List.drop_length] at heq
   have heq : R.ok (Z.d (.list (ds ++ []))) M2 = r0 := heq
   rw [← heq] at e1
   have hex : ∀ a ∈ ι1.ex, a ∈ ι2.ex := x2.exs
   refine e1 ⟨ι2.pl, ι1.ex, ι2.fa⟩ _ H2 ⟨x2.suf, fun _ z => z, fun a o q t n z => by
     rcases z with z | z
     · exact (x2.keep a o q t fun w => n (.inl w)).1 z
     · exact n (.inr z), x2.keep, x2.fns, x2.fz⟩ (m2.anti rfl rfl hex) (.d ?_)
   rw [List.append_nil]
   refine .lst ⟨fun z => ?_, d3⟩ (DenL.anti (ι := ι2) (ι' := ⟨ι2.pl, ι1.ex, ι2.fa⟩) (fun a z => ?_) rfl l2)
   · rcases z with z | z
     · exact d2 z
     · exact m.has Dd (.inr z) hD
   · rcases z with z | z
     · exact .inl z
     · exact .inr (hex a z)
 case pos =>
   refine .inr ⟨sv.go i ι2 H2 x2 hlt, _, fun H' hH' => ⟨zs.length - (i + 1), by omega, hH'⟩, fun x H3 hy => ?_⟩
   obtain ⟨z, hz, dz, x3, hm3⟩ := sv.yld i ι2 H2 x H3 x2 m2.has hlt hy
   obtain ⟨d1', d2', d3'⟩ := x3.apart d1 d2 d3
   have m3 := hm3 _ m2
   have l3 := l2.mono x3
   have hdrop : zs.drop i = z :: zs.drop (i + 1) := by
     rw [List.drop_eq_getElem_cons hlt]
     congr 1
     have := List.getElem?_eq_getElem hlt
     rw [this] at hz
     exact Option.some.inj hz
   rw [hdrop] at heq
   have x13 := x2.trans x3
   have sr : SR W.K S ι2 H3 (wipe σ own) (wipeE ρ own) := (rl1.s.mono x13).wipe own
   cases hbt : bindT tg (wipeE ρ own) z with
   | none =>
     simp only [lcL, hbt, R.calm, R.bind] at heq
     rw [← heq] at e1
     exact e1.elim
   | some ρ1 =>
     refine ⟨ι2, wipeE ρ own, M2, z, ρ1, ⟨sr, m3⟩, dz, hbt, fun σ' sr' hw => ⟨by rw [hw, wipe_in fun _ h => h], ι2, ρ1, M2, ⟨sr', m3⟩, ?_⟩⟩
     simp only [lcL, hbt] at heq
     cases hcv : fc ρ1 M2 with
     | bad =>
       simp only [hcv, R.calm, R.bind] at heq
       rw [← heq] at e1
       exact e1.elim
     | ex x1 M4 =>
       simp only [hcv, R.calm, R.bind] at heq
       rw [← heq] at e1
       exact e1.elim
     | ok b M4 =>
       intro ι4 b' H4 x4 m4 hb'
       cases (show b' = b from hb')
       obtain ⟨e1', e2', e3'⟩ := x4.apart d1' d2' d3'
       have l4 := l3.mono x4
       have x14 := x13.trans x4
       simp only [hcv, R.bind] at heq
       cases b with
       | false =>
         rw [if_neg Bool.false_ne_true] at heq ⊢
         exact ⟨rfl, hlt, ι4, M4, acc, ds, x14, e1', e2', m4, e3', l4, by omega, heq⟩
       | true =>
         rw [if_pos rfl] at heq ⊢
         refine ⟨ι4, ρ1, M4, ⟨sr'.mono x4, m4⟩, ?_⟩
         cases hev : fe ρ1 M4 with
         | bad =>
           simp only [hev, R.calm, R.bind] at heq
           rw [← heq] at e1
           exact e1.elim
         | ex x1 M5 =>
           simp only [hev, R.calm, R.bind] at heq
           rw [← heq] at e1
           exact e1.elim
         | ok y M5 =>
           intro ι5 v5 H5 x5 m5 hv
           obtain ⟨f1, f2, f3⟩ := x5.apart e1' e2' e3'
           have l5 := l4.mono x5
           have x15 := x14.trans x5
           simp only [hev] at heq
           cases hv with
           | r _ =>
             simp only [R.calm, R.bind] at heq
             rw [← heq] at e1
             exact e1.elim
           | f _ =>
             simp only [R.calm, R.bind] at heq
             rw [← heq] at e1
             exact e1.elim
           | @d _ yd hv =>
             have hacc : acc.length < sizeLine := Nat.lt_of_lt_of_le (m := llen) (by rw [l5.length]; omega) (by decide +kernel)
             refine ⟨acc, f3, hacc, rfl, hlt, ι5, M5, acc ++ [v5], ds ++ [yd], x15.touch hD, f1, f2, m5.touch f1 f2 f3, upd_same, (l5.append (.cons hv .nil)).touch (.inr f1), by simp; omega, ?_⟩
             rw [← heq]
             cases lcL fc fe tg (wipeE ρ own) (zs.drop (i + 1)) M5 <;> simp [R.calm, R.bind]
theorem j_lc (g : GX W G S k h cc X wx) {elt t it : Expr} {cs : List Expr} {scope : Scope} {pos : Pos} {own : List Nat} {tg : Tg} {fI : Env → Mem → R (List Z)} {fc : Env → Mem → R Bool} {fe : Env → Mem → R Z}
   (hi : Hh.PIM (MdH h) X t it (iZ W S wx fI)) (hb : blkC cc.N cc.sc scope (own.filterMap fun j => (cc.N[j]?).map fun n => (n, j)) = true) (ho : own.all (fun j => decide (j < cc.N.length)) = true) (htg : ∀ i ∈ tg.ids, i ∈ own) (hct : chkTg (blkCC cc scope) tg t = true)
   (hc : ∀ X', GX W G S k h (blkCC cc scope) X' wx0 → PTs X' cs (tDT W S wx0 fc)) (he : ∀ X', GX W G S k h (blkCC cc scope) X' wx0 → PE X' elt (tD W S wx0 fe)) (hs : ∀ x, foldedSetIterable it X.env x = pure x) :
   PE X (.ListComp elt [⟨t, it, cs, 0⟩] scope pos) (tD W S wx fun ρ M => (fI ρ M).bind fun zs M1 => if zs.length ≤ llen then ((lcL fc fe tg (wipeE ρ own) zs M1).calm).bind fun ds M2 => .ok (.d (.list ds)) M2 else .bad) := by
 have hown : (own.filterMap fun j => (cc.N[j]?).map fun n => (n, j)).map (·.2) = own := by
   clear hb htg
   induction own with
   | nil => rfl
   | cons j r ih =>
     rw [List.all_cons, Bool.and_eq_true] at ho
     have hj : j < cc.N.length := of_decide_eq_true ho.1
     rw [List.filterMap_cons, List.getElem?_eq_getElem hj]
     show j :: _ = _
     rw [ih ho.2]
 have hok : BlkOk X.N X.env.scope scope (own.filterMap fun j => (cc.N[j]?).map fun n => (n, j)) := by
   rw [g.eN, g.eS]
   exact blkOk_by hb
 have pe := Hh.lcM (md := MdH h) (pos := pos) (fun s H ce fp pins => g.mdh.blk s H scope ce fp pins) g.nd hi hok (fun s H C cl fp pins => g_tg (g.blk s H scope C cl fp pins) hct htg) (fun s H C cl fp pins => hc _ (g.blk s H scope C cl fp pins)) (fun s H C cl fp pins => he _ (g.blk s H scope C cl fp pins)) hs
 rw [hown] at pe
 exact pe.imp fun σ H Q hq => lc_rd hq
theorem lc_rdR {tg : Tg} {own : List Nat} {fo : Env → Mem → R Z} {fc : Env → Mem → R Bool} {fe : Env → Mem → R Z} {σ : St} {H : Hp} {Q : VK} (hq : tD W S wx (fun ρ M => (fo ρ M).bind fun z M1 => match z with
   | .r n => match getL M1 n with
     | some ds => if ds.length ≤ llen then ((lcRL fc fe tg n (wipeE ρ own) (ds.length + 1) 0 M1).calm).bind fun ds M2 => .ok (.d (.list ds)) M2 else .bad
     | none => .bad
   | _ => .bad) σ H Q) :
   tLc (fun σ H RR => tD W S wx fo σ H fun v H1 => ∃ a xs, v = .ref a ∧ H1 a = some (.lst xs) ∧ RR (Itl W.K a) H1) (gT W S tg own) (tDT W S wx0 fc) (tD W S wx0 fe) own σ H Q := by
 obtain ⟨ι, ρ, M, rl, e⟩ := hq
 dsimp only at e
 refine ⟨ι, ρ, M, rl, e.step fun z M1 ι1 v1 H1 ex m dz e1 => ?_⟩
 cases dz with
 | d _ => exact e1.elim
 | f _ => exact e1.elim
 | @r n a hp =>
 dsimp only at e1
 cases gl : getL M1 n with
 | none => rw [gl] at e1; exact e1.elim
 | some ds0 =>
 rw [gl] at e1
 dsimp only at e1
 split at e1
 case isFalse => exact e1.elim
 rename_i hlen
 have rl1 := rl.go ex m
 obtain ⟨xs0, hx0, _⟩ := m.m.at (getL_some gl) hp
 refine ⟨a, xs0, rfl, hx0, ?_⟩
 intro Dd hD
 generalize hr0 : ((lcRL fc fe tg n (wipeE ρ own) (ds0.length + 1) 0 M1).calm.bind fun ds M2 => R.ok (Z.d (.list ds)) M2) = r0 at e1
 refine ⟨fun i m H2 => i + m = ds0.length + 1 ∧ ∃ ι2 M2 acc ds, Ext ι1 H1 ι2 H2 ∧ Dd ∈ ι2.ex ∧ Dd ∉ ι2.pl ∧ MI W ι2 H2 M2 ∧ H2 Dd = some (.lst acc) ∧ DenL W.K ι2 H2 acc ds ∧ ds.length ≤ i ∧
   ((lcRL fc fe tg n (wipeE ρ own) m i M2).calm.bind fun ds' M3 => R.ok (Z.d (.list (ds ++ ds'))) M3) = r0, ⟨ds0.length + 1, by omega, ι1.lock Dd, M1, [], [], Ext.lock hD, List.mem_cons_self, fun z => m.has Dd (.inl z) hD, m.lock nt_lst hD, upd_same, .nil, Nat.le_refl _, by simpa using hr0⟩, ?_⟩
 rintro i mm H2 ⟨hi2, ι2, M2, acc, ds, x2, d1, d2, m2, d3, l2, hl2, heq⟩
 have gone : ∀ {α : Prop}, r0 = .bad → α := fun {α} h => by
   rw [h] at e1
   exact e1.elim
 cases mm with
 | zero => exact gone heq.symm
 | succ mm =>
 simp only [lcRL] at heq
 cases gl2 : getL M2 n with
 | none =>
   rw [gl2] at heq
   exact gone heq.symm
 | some es =>
 rw [gl2] at heq
 dsimp only at heq
 obtain ⟨xs, hx, lx⟩ := m2.m.at (getL_some gl2) (x2.at hp)
 have sq : SqL W.K H2 a xs := .inl (.inl hx)
 cases ge : es[i]? with
 | none =>
   rw [ge] at heq
   refine .inl ⟨⟨xs, sq, by rw [lx.length]; exact List.getElem?_eq_none_iff.mp ge⟩, ?_⟩
   have heq : R.ok (Z.d (.list (ds ++ []))) M2 = r0 := heq
   rw [← heq] at e1
   have hex : ∀ a ∈ ι1.ex, a ∈ ι2.ex := x2.exs
   refine e1 ⟨ι2.pl, ι1.ex, ι2.fa⟩ _ H2 ⟨x2.suf, fun _ z => z, fun a o q t n z => by
     rcases z with z | z
     · exact (x2.keep a o q t fun w => n (.inl w)).1 z
     · exact n (.inr z), x2.keep, x2.fns, x2.fz⟩ (m2.anti rfl rfl hex) (.d ?_)
   rw [List.append_nil]
   refine .lst ⟨fun z => ?_, d3⟩ (DenL.anti (ι := ι2) (ι' := ⟨ι2.pl, ι1.ex, ι2.fa⟩) (fun a z => ?_) rfl l2)
   · rcases z with z | z
     · exact d2 z
     · exact m.has Dd (.inr z) hD
   · rcases z with z | z
     · exact .inl z
     · exact .inr (hex a z)
 | some d0 =>
   rw [ge] at heq
   dsimp only at heq
   have hlt : i < xs.length := by
     rw [lx.length]
     exact (List.getElem?_eq_some_iff.mp ge).1
   refine .inr ⟨⟨xs, xs[i], sq, List.getElem?_eq_getElem hlt⟩, _, fun H' hH' => ⟨mm, Nat.lt_succ_self _, hH'⟩, fun x H3 hy => ?_⟩
   obtain ⟨eH, hxi⟩ := hy
   subst eH
   obtain ⟨d', hd', dx⟩ := lx.get' (hxi xs sq)
   rw [ge] at hd'
   cases hd'
   have sr : SR W.K S ι2 H3 (wipe σ own) (wipeE ρ own) := (rl1.s.mono x2).wipe own
   cases hbt : bindT tg (wipeE ρ own) (.d d0) with
   | none =>
     rw [hbt] at heq
     exact gone heq.symm
   | some ρ1 =>
     rw [hbt] at heq
     dsimp only at heq
     refine ⟨ι2, wipeE ρ own, M2, .d d0, ρ1, ⟨sr, m2⟩, .d dx, hbt, fun σ' sr' hw => ⟨by rw [hw, wipe_in fun _ h => h], ι2, ρ1, M2, ⟨sr', m2⟩, ?_⟩⟩
     cases hcv : fc ρ1 M2 with
     | bad =>
       simp only [hcv, R.calm, R.bind] at heq
       exact gone heq.symm
     | ex x1 M4 =>
       simp only [hcv, R.calm, R.bind] at heq
       exact gone heq.symm
     | ok b M4 =>
       intro ι4 b' H4 x4 m4 hb'
       cases (show b' = b from hb')
       obtain ⟨e1', e2', e3'⟩ := x4.apart d1 d2 d3
       have l4 := l2.mono x4
       have x14 := x2.trans x4
       simp only [hcv, R.bind] at heq
       cases b with
       | false =>
         rw [if_neg Bool.false_ne_true] at heq ⊢
         exact ⟨by omega, ι4, M4, acc, ds, x14, e1', e2', m4, e3', l4, by omega, heq⟩
       | true =>
         rw [if_pos rfl] at heq ⊢
         refine ⟨ι4, ρ1, M4, ⟨sr'.mono x4, m4⟩, ?_⟩
         cases hev : fe ρ1 M4 with
         | bad =>
           simp only [hev, R.calm, R.bind] at heq
           exact gone heq.symm
         | ex x1 M5 =>
           simp only [hev, R.calm, R.bind] at heq
           exact gone heq.symm
         | ok y M5 =>
           intro ι5 v5 H5 x5 m5 hv
           obtain ⟨f1, f2, f3⟩ := x5.apart e1' e2' e3'
           have l5 := l4.mono x5
           have x15 := x14.trans x5
           simp only [hev] at heq
           cases hv with
           | r _ =>
             simp only [R.calm, R.bind] at heq
             exact gone heq.symm
           | f _ =>
             simp only [R.calm, R.bind] at heq
             exact gone heq.symm
           | @d _ yd hv =>
             have hacc : acc.length < sizeLine := Nat.lt_of_lt_of_le (m := llen + 1) (by rw [l5.length]; omega) (by decide +kernel)
             refine ⟨acc, f3, hacc, by omega, ι5, M5, acc ++ [v5], ds ++ [yd], x15.touch hD, f1, f2, m5.touch f1 f2 f3, upd_same, (l5.append (.cons hv .nil)).touch (.inr f1), by simp; omega, ?_⟩
             rw [← heq]
             cases lcRL fc fe tg n (wipeE ρ own) mm (i + 1) M5 <;> simp [R.calm, R.bind]
theorem j_lcR (g : GX W G S k h cc X wx) {elt t it : Expr} {cs : List Expr} {scope : Scope} {pos : Pos} {own : List Nat} {tg : Tg} {fo : Env → Mem → R Z} {fc : Env → Mem → R Bool} {fe : Env → Mem → R Z}
   (hi : PE X it (tD W S wx fo)) (hb : blkC cc.N cc.sc scope (own.filterMap fun j => (cc.N[j]?).map fun n => (n, j)) = true) (ho : own.all (fun j => decide (j < cc.N.length)) = true) (htg : ∀ i ∈ tg.ids, i ∈ own) (hct : chkTg (blkCC cc scope) tg t = true)
   (hc : ∀ X', GX W G S k h (blkCC cc scope) X' wx0 → PTs X' cs (tDT W S wx0 fc)) (he : ∀ X', GX W G S k h (blkCC cc scope) X' wx0 → PE X' elt (tD W S wx0 fe)) (hs : ∀ x, foldedSetIterable it X.env x = pure x) :
   PE X (.ListComp elt [⟨t, it, cs, 0⟩] scope pos) (tD W S wx fun ρ M => (fo ρ M).bind fun z M1 => match z with
   | .r n => match getL M1 n with
     | some ds => if ds.length ≤ llen then ((lcRL fc fe tg n (wipeE ρ own) (ds.length + 1) 0 M1).calm).bind fun ds M2 => .ok (.d (.list ds)) M2 else .bad
     | none => .bad
   | _ => .bad) := by
 have hown : (own.filterMap fun j => (cc.N[j]?).map fun n => (n, j)).map (·.2) = own := by
   clear hb htg
   induction own with
   | nil => rfl
   | cons j r ih =>
     rw [List.all_cons, Bool.and_eq_true] at ho
     have hj : j < cc.N.length := of_decide_eq_true ho.1
     rw [List.filterMap_cons, List.getElem?_eq_getElem hj]
     show j :: _ = _
     rw [ih ho.2]
 have hok : BlkOk X.N X.env.scope scope (own.filterMap fun j => (cc.N[j]?).map fun n => (n, j)) := by
   rw [g.eN, g.eS]
   exact blkOk_by hb
 have hi2 : Hh.PIM (MdH h) X t it (fun σ H RR => tD W S wx fo σ H fun v H1 => ∃ a xs, v = .ref a ∧ H1 a = some (.lst xs) ∧ RR (Itl W.K a) H1) := ⟨fun pins s σ H RR I q => by
   refine thn (hi.run pins s σ H _ I q) fun v s1 hh => ?_
   obtain ⟨x, H1, I1, r1, a, xs, ex, ha, rr⟩ := hh
   subst ex
   cases r1
   exact thn (pit_list I1 (.inl (.inl ha)) (by rw [g.eK]; exact rr)) fun v s2 z => piem_weak z fun _ => MdH.md⟩
 have pe := Hh.lcM (md := MdH h) (pos := pos) (fun s H ce fp pins => g.mdh.blk s H scope ce fp pins) g.nd hi2 hok (fun s H C cl fp pins => g_tg (g.blk s H scope C cl fp pins) hct htg) (fun s H C cl fp pins => hc _ (g.blk s H scope C cl fp pins)) (fun s H C cl fp pins => he _ (g.blk s H scope C cl fp pins)) hs
 rw [hown] at pe
 exact pe.imp fun σ H Q hq => lc_rdR hq
theorem pi_of {X : Cx} {tg iter : Expr} {wi : TI} (h : Hh.PIM (MdH false) X tg iter wi) : PI X tg iter wi :=
 ⟨fun pins s σ H RR I q => thn (h.run pins s σ H RR I q) fun v s1 h1 => thn h1 fun itv s2 hh => by
   obtain ⟨it, fp, tn, J, H', e, I', T, t0, hf, r⟩ := hh
   have md : ∀ Y : Cx, Y.calm = true → MdH false Y := fun Y c => ⟨fun _ => c, fun z => nomatch z⟩
   exact ⟨it, fp, tn, J, H', e, I', ⟨T.mem, T.obj, T.keep, fun Y a b c d => T.item Y a b c (md Y d), fun Y a b c d => T.done Y a b c (md Y d), T.self⟩, t0, hf, r⟩⟩
theorem GX.blk0 (g : GX W G S k false cc X wx) (s : Shared) (H : Hp) (scope : Scope) (C : Addr) (cl : List (Str × Addr)) (fp : List Addr) :
   GX W G S k false (blkCC cc scope) (X.blk s H scope (compEnvC scope cl C X.env) fp) wx0 where
 eP := g.eP
 eW := g.eW
 eK := g.eK
 eM := g.eM
 eB := g.eB
 eN := g.eN
 nd := g.nd
 eS := by
   show relS scope X.env.scope = relS scope cc.sc
   rw [g.eS]
 room := g.room
 calm := g.calm
 hot := fun e => nomatch e
 takes := fun _ _ x => by
   obtain ⟨_, _, _, _, _, _, _, _, _, _, _, _, _, _, _, _, z⟩ := x
   exact z.elim
 pass := PassesOwn.never
 st := fun _ e => e
 ok := g.ok
 calls := g.calls
 lam := fun e => nomatch e
 nx := g.nx
 fr := fun e => nomatch e
 xc := fun e => nomatch e
 xp := fun e => nomatch e
 xl := fun e => nomatch e
theorem js_lc (g : GX W G S k h cc X wx) {elt t it : Expr} {cs : List Expr} {scope : Scope} {pos py spos : Pos} {own : List Nat} {tg : Tg} {i : Nat} {y : Str} {fI : Env → Mem → R (List Z)} {fc : Env → Mem → R Bool} {fe : Env → Mem → R Z}
   (hi : Hh.PIM (MdH h) X t it (iZ W S wx fI)) (hb : blkC cc.N cc.sc scope (own.filterMap fun j => (cc.N[j]?).map fun n => (n, j)) = true) (ho : own.all (fun j => decide (j < cc.N.length)) = true) (htg : ∀ i ∈ tg.ids, i ∈ own) (hct : chkTg (blkCC cc scope) tg t = true)
   (hc : ∀ X', GX W G S k h (blkCC cc scope) X' wx0 → PTs X' cs (tDT W S wx0 fc)) (he : ∀ X', GX W G S k h (blkCC cc scope) X' wx0 → PE X' elt (tD W S wx0 fe)) (hs : ∀ x, foldedSetIterable it X.env x = pure x)
   (hN : cc.N[i]? = some y) (hy : cc.sc.names.lookup y = some .local) (hk : cc.sc.kind = .function) (hl : (py.line == pos.line) = true) (hn : (scope.names.any fun p => p.1 == y && (p.2 == .local || p.2 == .cell)) = false) :
   PS X (.Assign [.Name y py] (.ListComp elt [⟨t, it, cs, 0⟩] scope pos) spos) (tAsg (tLc (iZ W S wx fI) (gT W S tg own) (tDT W S wx0 fc) (tD W S wx0 fe) own) (gName i)) := by
 have hown : (own.filterMap fun j => (cc.N[j]?).map fun n => (n, j)).map (·.2) = own := by
   clear hb htg
   induction own with
   | nil => rfl
   | cons j r ih =>
     rw [List.all_cons, Bool.and_eq_true] at ho
     have hj : j < cc.N.length := of_decide_eq_true ho.1
     rw [List.filterMap_cons, List.getElem?_eq_getElem hj]
     show j :: _ = _
     rw [ih ho.2]
 have hok : BlkOk X.N X.env.scope scope (own.filterMap fun j => (cc.N[j]?).map fun n => (n, j)) := by
   rw [g.eN, g.eS]
   exact blkOk_by hb
 have hys : X.env.scope.names.lookup y = some .local := by rw [g.eS]; exact hy
 have ps := Hh.setLcM (md := MdH h) (spos := spos) (pos := pos) (py := py) (fun s H ce fp pins => g.mdh.blk s H scope ce fp pins) g.nd (show X.N[i]? = some y by rw [g.eN]; exact hN) hys (sw_true (by rw [g.eS]; exact hk) hys hl hn) hi hok (fun s H C cl fp pins => g_tg (g.blk s H scope C cl fp pins) hct htg) (fun s H C cl fp pins => hc _ (g.blk s H scope C cl fp pins)) (fun s H C cl fp pins => he _ (g.blk s H scope C cl fp pins)) hs
 rw [hown] at ps
 exact ps
theorem js_lcR (g : GX W G S k h cc X wx) {elt t it : Expr} {cs : List Expr} {scope : Scope} {pos py spos : Pos} {own : List Nat} {tg : Tg} {i : Nat} {y : Str} {fo : Env → Mem → R Z} {fc : Env → Mem → R Bool} {fe : Env → Mem → R Z}
   (hi : PE X it (tD W S wx fo)) (hb : blkC cc.N cc.sc scope (own.filterMap fun j => (cc.N[j]?).map fun n => (n, j)) = true) (ho : own.all (fun j => decide (j < cc.N.length)) = true) (htg : ∀ i ∈ tg.ids, i ∈ own) (hct : chkTg (blkCC cc scope) tg t = true)
   (hc : ∀ X', GX W G S k h (blkCC cc scope) X' wx0 → PTs X' cs (tDT W S wx0 fc)) (he : ∀ X', GX W G S k h (blkCC cc scope) X' wx0 → PE X' elt (tD W S wx0 fe)) (hs : ∀ x, foldedSetIterable it X.env x = pure x)
   (hN : cc.N[i]? = some y) (hy : cc.sc.names.lookup y = some .local) (hk : cc.sc.kind = .function) (hl : (py.line == pos.line) = true) (hn : (scope.names.any fun p => p.1 == y && (p.2 == .local || p.2 == .cell)) = false) :
   PS X (.Assign [.Name y py] (.ListComp elt [⟨t, it, cs, 0⟩] scope pos) spos) (tAsg (tLc (fun σ H RR => tD W S wx fo σ H fun v H1 => ∃ a xs, v = .ref a ∧ H1 a = some (.lst xs) ∧ RR (Itl W.K a) H1) (gT W S tg own) (tDT W S wx0 fc) (tD W S wx0 fe) own) (gName i)) := by
 have hown : (own.filterMap fun j => (cc.N[j]?).map fun n => (n, j)).map (·.2) = own := by
   clear hb htg
   induction own with
   | nil => rfl
   | cons j r ih =>
     rw [List.all_cons, Bool.and_eq_true] at ho
     have hj : j < cc.N.length := of_decide_eq_true ho.1
     rw [List.filterMap_cons, List.getElem?_eq_getElem hj]
     show j :: _ = _
     rw [ih ho.2]
 have hok : BlkOk X.N X.env.scope scope (own.filterMap fun j => (cc.N[j]?).map fun n => (n, j)) := by
   rw [g.eN, g.eS]
   exact blkOk_by hb
 have hys : X.env.scope.names.lookup y = some .local := by rw [g.eS]; exact hy
 have hi2 : Hh.PIM (MdH h) X t it (fun σ H RR => tD W S wx fo σ H fun v H1 => ∃ a xs, v = .ref a ∧ H1 a = some (.lst xs) ∧ RR (Itl W.K a) H1) := ⟨fun pins s σ H RR I q => by
   refine thn (hi.run pins s σ H _ I q) fun v s1 hh => ?_
   obtain ⟨x, H1, I1, r1, a, xs, ex, ha, rr⟩ := hh
   subst ex
   cases r1
   exact thn (pit_list I1 (.inl (.inl ha)) (by rw [g.eK]; exact rr)) fun v s2 z => piem_weak z fun _ => MdH.md⟩
 have ps := Hh.setLcM (md := MdH h) (spos := spos) (pos := pos) (py := py) (fun s H ce fp pins => g.mdh.blk s H scope ce fp pins) g.nd (show X.N[i]? = some y by rw [g.eN]; exact hN) hys (sw_true (by rw [g.eS]; exact hk) hys hl hn) hi2 hok (fun s H C cl fp pins => g_tg (g.blk s H scope C cl fp pins) hct htg) (fun s H C cl fp pins => hc _ (g.blk s H scope C cl fp pins)) (fun s H C cl fp pins => he _ (g.blk s H scope C cl fp pins)) hs
 rw [hown] at ps
 exact ps
end
end Zt
namespace Zt
open PySem PySem.Spec PyProof.Rows L2
section
variable {P : Program} {w : World} {K : PySem.W.Frag} {tg : Expr} {d : Addr} {o : Obj} {xs : List Nx} {es : Array DictEntry} {ep : Nat}
theorem turn_keysM (it : Addr) (hod : o.data = .dict es ep) : Hh.TurnM Hh.Md P w K tg (ItN w d o xs) [it] it (fun i h => h.IsKeyIter it d i xs.length ep) where
 mem := by simp
 obj := fun i h st b hb => (turn_keysN (P := P) (w := w) (K := K) (tg := tg) it hod).obj i h st b hb
 keep := fun i h h' st k => (turn_keysN (P := P) (w := w) (K := K) (tg := tg) (xs := xs) (d := d) it hod).keep i h h' st k
 item := by
   intro X hP hw hK hc i pins s σ H E I hf st hg
   subst hP hw hK
   obtain ⟨hd, hi⟩ := hg
   obtain ⟨f0, f1, f2, f3, f4, f5⟩ := hf it (by simp)
   obtain ⟨hgd, hx, es', ep', hdt, hsz, ent⟩ := Inv.frzN I hd
   obtain ⟨rfl, rfl⟩ := dict_ep hod hdt
   obtain ⟨x, hkv⟩ : ∃ p, xs[i]? = some p := ⟨xs[i], List.getElem?_eq_getElem hi⟩
   obtain ⟨en, hen, hkey⟩ := ent i x hkv
   refine next_key_item st hgd hdt hsz hen fun h' st' sb => ?_
   have I1 : Inv X pins σ H { s with heap := h' } := I.turned (t' := s.toks) (fun b ob hb e => (sb.2 b hb).trans e) f0 f1 f3 f4 f5
   obtain ⟨oi, e, c, dd⟩ := id st'
   exact ⟨en.key, rfl, go_of (s := { s with heap := h' }) e c dd (by decide) ⟨.ref x.2.1, H, I1, hkey, ⟨rfl, x, hkv, rfl⟩, st', fun b hb => (hf b hb).1⟩⟩
 done := by
   intro X hP hw hK hc i pins s σ H E I hf st hg
   subst hP hw hK
   obtain ⟨hd, hi⟩ := hg
   have pl := Hh.Md.plc hc I hf
   obtain ⟨f0, f1, f2, f3, f4, f5⟩ := hf it (by simp)
   obtain ⟨hgd, hx, es', ep', hdt, hsz, ent⟩ := Inv.frzN I hd
   obtain ⟨rfl, rfl⟩ := dict_ep hod hdt
   rcases pl with hc | ⟨x1, hot, nx⟩
   · exact next_key_end hc st hgd hdt hsz hi fun h' eb => ⟨rfl, I.turned (t' := s.toks) (fun b ob hb e => eb b ob hb e) f0 f1 f3 f4 f5⟩
   · exact Hh.keys_stop hot (fun z => nx (by simp [z])) st hgd hdt hsz hi fun h' eb => ⟨rfl, I.turned (t' := s.toks) (fun b ob hb e => eb b ob hb e) f0 f1 f3 f4 f5⟩
 self := fun A i s Q E st h => (turn_keysN (P := P) (w := w) (K := K) (tg := tg) (xs := xs) (d := d) it hod).self A i s Q E st h
end
theorem pim_keysM {X : Cx} {tg e : Expr} {td : TE} (he : PE X e td) : Hh.PIM Hh.Md X tg e (fun σ H R => td σ H fun x H1 => ∃ d o xs, x = .ref d ∧ H1 d = some (.frz o (.ext (rawN X.w d xs))) ∧ (d == sysModules) = false ∧ R (ItN X.w d o xs) H1) := by
 refine ⟨fun pins s σ H R I h => ?_⟩
 refine thn (he.run pins s σ H _ I h) fun u s1 ⟨x, H1, I1, rx, d, o, xs, ex, hd, hs, q⟩ => ?_
 subst ex
 obtain rfl : u = Value.ref d := rx
 obtain ⟨hgd, hx, es, ep, hdt, hsz, ent⟩ := Inv.frzN I1 hd
 have hn : H1 s1.heap.objs.size = none := I1.hok.fresh (Nat.le_refl _)
 refine iter_keys hs hgd hx hdt ⟨_, [s1.heap.objs.size], _, _, H1, rfl, I1.kept (t' := s1.toks) fun b o e => Heap.get?_push_of_some _ e, turn_keysM _ hdt, ⟨_, Heap.get?_push_size _ rfl, rfl, ?_⟩, fun b hb => ?_, q⟩
 · rw [hsz] <;> rfl
 · have e : b = s1.heap.objs.size := by simpa using hb
   rw [e]
   exact I1.fpOk (Nat.le_refl _) hn
end Zt
namespace Zt
open PySem PySem.Spec PyProof.Rows L2
def EndS (W : Wd) (S : Sc) (wx : WX) (D : Ends) (ι : Io) (H : Hp) : O → Prop
 | .nx ρ' M' => ∀ ι' σ' H', Ext ι H ι' H' → Rl W S ι' σ' H' ρ' M' → D.nx σ' H'
 | .rt z M' => ∀ ι' v H', Ext ι H ι' H' → MI W ι' H' M' → DenZ W.K ι' H' v z → D.rt v H'
 | .ex e ρ' M' => ∀ ι' dx σ' H', Ext ι H ι' H' → Rl W S ι' σ' H' ρ' M' → ExF W.K ι' H' dx e.fs → wx (W.cv e.c) dx σ' H'
 | .bad => False
def tS (W : Wd) (S : Sc) (wx : WX) (f : Env → Mem → O) : TS := fun D σ H => ∃ ι ρ M, Rl W S ι σ H ρ M ∧ EndS W S wx D ι H (f ρ M)
section
variable {W : Wd} {S : Sc} {wx : WX} {D : Ends} {ι ι1 : Io} {H H1 : Hp} {o : O}
theorem EndS.mono (e : Ext ι H ι1 H1) (h : EndS W S wx D ι H o) : EndS W S wx D ι1 H1 o := by
 cases o with
 | nx ρ M => exact fun ι' σ' H' x => h ι' σ' H' (e.trans x)
 | rt z M => exact fun ι' v H' x => h ι' v H' (e.trans x)
 | ex x ρ M => exact fun ι' dx σ' H' x => h ι' dx σ' H' (e.trans x)
 | bad => exact h
theorem EndS.step {σ : St} {ρ : Env} {α β : Type} {rel : Io → Hp → β → α → Prop} {Gk : β → Hp → Prop} {r : R α} {f : α → Mem → O} (s : SR W.K S ι H σ ρ)
   (h : EndS W S wx D ι H (r.st ρ f)) (g : ∀ z M1 ι1 v1 H1, Ext ι H ι1 H1 → MI W ι1 H1 M1 → rel ι1 H1 v1 z → EndS W S wx D ι1 H1 (f z M1) → Gk v1 H1) : EndG W wx σ ι H rel Gk r := by
 cases r with
 | ok z M => exact fun ι1 v1 H1 ex m d => g z M ι1 v1 H1 ex m d (EndS.mono ex h)
 | ex x M => exact fun ι' dx H' ex m xf => h ι' dx σ H' ex ⟨s.mono ex, m⟩ xf
 | bad => exact h
theorem EndS.bind {f : Env → Mem → O} (h : EndS W S wx D ι H (o.bind f)) {N : St → Hp → Prop} (g : ∀ ρ' M' ι' σ' H', o = .nx ρ' M' → Ext ι H ι' H' → Rl W S ι' σ' H' ρ' M' → EndS W S wx D ι' H' (f ρ' M') → N σ' H') {bk ct : St → Hp → Prop} :
   EndS W S wx { D with nx := N, bk := bk, ct := ct } ι H o := by
 cases o with
 | nx ρ M => exact fun ι' σ' H' x rl => g ρ M ι' σ' H' rfl x rl (EndS.mono x h)
 | rt z M => exact h
 | ex x ρ M => exact h
 | bad => exact h
end
section
variable {W : Wd} {G : Stat} {S : Sc} {k : Nat} {h : Bool} {cc : CC} {X : Cx} {wx : WX}
theorem js_asg (g : GX W G S k h cc X wx) {t : Tg} {y z : Expr} {f : Env → Mem → R Z} {pos : Pos} (hz : PE X z (tD W S wx f)) (hc : chkTg cc t y = true) (hs : swapsWithSole [y] z pos.line X.env = pure false) (hw : swappedStores [y] z X.env = pure none) :
   PS X (.Assign [y] z pos) (tS W S wx fun ρ M => (f ρ M).st ρ fun z M1 => match bindT t ρ z with
   | some ρ1 => .nx ρ1 M1
   | none => .bad) := by
 have h1 : (assignEach [y] X.env).map (·.2) = [assign y X.env] := by
   cases t with
   | nm i =>
     cases y <;> first | rfl | cases hc
   | tp is =>
     cases y <;> first | rfl | cases hc
 refine (ps_asg hz (g_tg g hc (ns := t.ids) fun _ h => h) hs hw h1).imp fun D σ H hq => ?_
 obtain ⟨ι, ρ, M, rl, e⟩ := hq
 dsimp only at e
 refine ⟨ι, ρ, M, rl, EndS.step rl.s e fun z M1 ι1 v1 H1 ex m d e1 => ?_⟩
 cases hb : bindT t ρ z with
 | none => rw [hb] at e1; exact e1.elim
 | some ρ1 =>
   rw [hb] at e1
   exact ⟨ι1, ρ, M1, z, ρ1, rl.go ex m, d, hb, fun σ' sr _ => e1 ι1 σ' H1 (Ext.refl _ _) ⟨sr, m⟩⟩
theorem js_ex {y : Expr} {f : Env → Mem → R Z} {pos : Pos} (hy : PE X y (tD W S wx f)) (hs : swapsWith y none pos.line X.env = pure false) : PS X (.Expr y pos) (tS W S wx fun ρ M => (f ρ M).st ρ fun _ M1 => .nx ρ M1) := by
 refine (ps_expr hy hs).imp fun D σ H hq => ?_
 obtain ⟨ι, ρ, M, rl, e⟩ := hq
 dsimp only at e
 exact ⟨ι, ρ, M, rl, EndS.step rl.s e fun z M1 ι1 v1 H1 ex m d e1 => e1 ι1 σ H1 (Ext.refl _ _) (rl.go ex m)⟩
theorem js_ret {y : Expr} {f : Env → Mem → R Z} {pos : Pos} (hy : PE X y (tD W S wx f)) : PS X (.Return (some y) pos) (tS W S wx fun ρ M => (f ρ M).st ρ fun z M1 => .rt z M1) := by
 refine (ps_ret hy).imp fun D σ H hq => ?_
 obtain ⟨ι, ρ, M, rl, e⟩ := hq
 dsimp only at e
 exact ⟨ι, ρ, M, rl, EndS.step rl.s e fun z M1 ι1 v1 H1 ex m d e1 => e1 ι1 v1 H1 (Ext.refl _ _) m d⟩
theorem js_retN {pos : Pos} : PS X (.Return none pos) (tS W S wx fun ρ M => (R.ok (Z.d .none) M).st ρ fun z M1 => .rt z M1) := by
 refine (ps_retN (X := X) (pos := pos)).imp fun D σ H hq => ?_
 obtain ⟨ι, ρ, M, rl, e⟩ := hq
 exact e ι .non H (Ext.refl _ _) rl.m (.d .non)
theorem js_if {c : Expr} {a b : List Stmt} {fc : Env → Mem → R Bool} {fa fb : Env → Mem → O} {pos : Pos} (hc : PT X c (tDT W S wx fc)) (ha : PSs X a (tS W S wx fa)) (hb : PSs X b (tS W S wx fb)) :
   PS X (.If c a b pos) (tS W S wx fun ρ M => (fc ρ M).st ρ fun k M1 => if k then fa ρ M1 else fb ρ M1) := by
 refine (ps_if hc ha hb).imp fun D σ H hq => ?_
 obtain ⟨ι, ρ, M, rl, e⟩ := hq
 dsimp only at e
 refine ⟨ι, ρ, M, rl, EndS.step rl.s e fun z M1 ι1 v1 H1 ex m d e1 => ?_⟩
 cases (show v1 = z from d)
 cases z with
 | true => exact ⟨ι1, ρ, M1, rl.go ex m, e1⟩
 | false => exact ⟨ι1, ρ, M1, rl.go ex m, e1⟩
theorem js_nil : PSs X [] (tS W S wx fun ρ M => .nx ρ M) := pss_nil.imp fun D σ H hq => by
 obtain ⟨ι, ρ, M, rl, e⟩ := hq
 exact e ι σ H (Ext.refl _ _) rl
theorem js_cons {s : Stmt} {r : List Stmt} {f u : Env → Mem → O} (hs : PS X s (tS W S wx f)) (hr : PSs X r (tS W S wx u)) : PSs X (s :: r) (tS W S wx fun ρ M => (f ρ M).bind fun ρ1 M1 => u ρ1 M1) := by
 refine (pss_cons hs hr).imp fun D σ H hq => ?_
 obtain ⟨ι, ρ, M, rl, e⟩ := hq
 exact ⟨ι, ρ, M, rl, EndS.bind e fun ρ' M' ι' σ' H' _ x rl' e' => ⟨ι', ρ', M', rl', e'⟩⟩
theorem js_pass {pos : Pos} : PS X (.Pass pos) (tS W S wx fun ρ M => .nx ρ M) := (ps_pass (X := X) (pos := pos)).imp fun D σ H hq => by
 obtain ⟨ι, ρ, M, rl, e⟩ := hq
 exact e ι σ H (Ext.refl _ _) rl
theorem js_while (g : GX W G S k h cc X wx) {c : Expr} {b : List Stmt} {fc : Env → Mem → R Bool} {fb : Env → Mem → O} {pos : Pos} {n : Nat} (hc : PT X c (tDT W S wx fc)) (hb : PSs X b (tS W S wx fb)) :
   PS X (.While c b [] pos) (tS W S wx fun ρ M => whL fc fb n ρ M) := by
 refine (ps_while g.pass hc hb).imp fun D σ H hq => ?_
 obtain ⟨ι, ρ, M, rl, e⟩ := hq
 refine ⟨fun m σ H => ∃ ι ρ M, Rl W S ι σ H ρ M ∧ EndS W S wx D ι H (whL fc fb m ρ M), ⟨n, ι, ρ, M, rl, e⟩, ?_⟩
 rintro m σ H ⟨ι, ρ, M, rl, e⟩
 cases m with
 | zero => exact e.elim
 | succ m =>
   refine ⟨ι, ρ, M, rl, EndS.step rl.s e fun z M1 ι1 v1 H1 ex m1 d e1 => ?_⟩
   cases (show v1 = z from d)
   cases z with
   | true =>
     rw [if_pos rfl]
     exact ⟨_, fun σ' H' h' => ⟨m, Nat.lt_succ_self m, h'⟩, ι1, ρ, M1, rl.go ex m1, EndS.bind (bk := D.nx) e1 fun ρ' M' ι' σ' H' _ x rl' e' => ⟨ι', ρ', M', rl', e'⟩⟩
   | false => exact e1 ι1 σ H1 (Ext.refl _ _) (rl.go ex m1)
theorem js_for (g : GX W G S k h cc X wx) {t : Tg} {y it : Expr} {b : List Stmt} {fI : Env → Mem → R (List Z)} {fb : Env → Mem → O} {pos : Pos} (hi : Hh.PIM (MdH h) X y it (iZ W S wx fI)) (hc : chkTg cc t y = true) (hb : PSs X b (tS W S wx fb))
   (hs : ∀ x, foldedSetIterable it X.env x = pure x) : PS X (.For y it b [] pos) (tS W S wx fun ρ M => (fI ρ M).st ρ fun zs M1 => forL fb t zs ρ M1) := by
 refine (Hh.ps_forM g.pass g.mdh hi (g_tg g hc (ns := t.ids) fun _ h => h) hb hs).imp fun D σ H hq => ?_
 obtain ⟨ι, ρ, M, rl, e⟩ := hq
 dsimp only at e
 refine ⟨ι, ρ, M, rl, EndS.step rl.s e fun zs M1 ι1 J H1 ex m sv e1 => ?_⟩
 have sv : Sv W J ι1 H1 zs := sv
 refine ⟨fun i m σ H => m = zs.length - i ∧ i ≤ zs.length ∧ ∃ ι ρ M, Ext ι1 H1 ι H ∧ Rl W S ι σ H ρ M ∧ EndS W S wx D ι H (forL fb t (zs.drop i) ρ M), ⟨zs.length, by simp, Nat.zero_le _, ι1, ρ, M1, Ext.refl _ _, rl.go ex m, by simpa using e1⟩, ?_⟩
 rintro i mm σ2 H2 ⟨rfl, hi2, ι2, ρ2, M2, x2, rl2, e2⟩
 by_cases hlt : i < zs.length
 case neg =>
   have e0 : i = zs.length := by omega
   refine .inl ⟨sv.stop i ι2 H2 x2 (by omega), ?_⟩
   rw [e0, List.drop_length] at e2
   exact e2 ι2 σ2 H2 (Ext.refl _ _) rl2
 case pos =>
   refine .inr ⟨sv.go i ι2 H2 x2 hlt, _, fun σ' H' hH' => ⟨zs.length - (i + 1), by omega, hH'⟩, fun x H3 hy => ?_⟩
   obtain ⟨z, hz, dz, x3, hm3⟩ := sv.yld i ι2 H2 x H3 x2 rl2.m.has hlt hy
   have hdrop : zs.drop i = z :: zs.drop (i + 1) := by
     rw [List.drop_eq_getElem_cons hlt]
     congr 1
     have := List.getElem?_eq_getElem hlt
     rw [this] at hz
     exact Option.some.inj hz
   rw [hdrop] at e2
   have e2 := EndS.mono x3 e2
   have rl3 := rl2.go x3 (hm3 _ rl2.m)
   cases hbt : bindT t ρ2 z with
   | none =>
     simp only [forL, hbt] at e2
     exact e2.elim
   | some ρ3 =>
     simp only [forL, hbt] at e2
     exact ⟨ι2, ρ2, M2, z, ρ3, rl3, dz, hbt, fun σ' sr _ => ⟨ι2, ρ3, M2, ⟨sr, rl3.m⟩, EndS.bind (bk := D.nx) e2 fun ρ' M' ι' σ' H' _ x rl' e' => ⟨rfl, hlt, ι', ρ', M', (x2.trans x3).trans x, rl', e'⟩⟩⟩
theorem js_forR (g : GX W G S k h cc X wx) {t : Tg} {y it : Expr} {b : List Stmt} {fo : Env → Mem → R Z} {fb : Env → Mem → O} {pos : Pos} (he : PE X it (tD W S wx fo)) (hc : chkTg cc t y = true) (hb : PSs X b (tS W S wx fb))
   (hs : ∀ x, foldedSetIterable it X.env x = pure x) : PS X (.For y it b [] pos) (tS W S wx fun ρ M => (fo ρ M).st ρ fun z M1 => match z with
     | .r n => match getL M1 n with
       | some ds => forRL fb t n (ds.length + 1) 0 ρ M1
       | none => .bad
     | _ => .bad) := by
 have hi : Hh.PIM (MdH h) X y it (fun σ H RR => tD W S wx fo σ H fun v H1 => ∃ a xs, v = .ref a ∧ H1 a = some (.lst xs) ∧ RR (Itl X.K a) H1) := ⟨fun pins s σ H RR I q => by
   refine thn (he.run pins s σ H _ I q) fun v s1 hh => ?_
   obtain ⟨x, H1, I1, r1, a, xs, ex, ha, rr⟩ := hh
   subst ex
   cases r1
   exact thn (pit_list I1 (.inl (.inl ha)) rr) fun v s2 z => piem_weak z fun _ => MdH.md⟩
 refine (Hh.ps_forM g.pass g.mdh hi (g_tg g hc (ns := t.ids) fun _ h => h) hb hs).imp fun D σ H hq => ?_
 obtain ⟨ι, ρ, M, rl, e⟩ := hq
 dsimp only at e
 refine ⟨ι, ρ, M, rl, EndS.step rl.s e fun z M1 ι1 v H1 ex m dz e1 => ?_⟩
 cases dz with
 | d _ => exact e1.elim
 | f _ => exact e1.elim
 | @r n a hp =>
   dsimp only at e1
   cases gl : getL M1 n with
   | none => rw [gl] at e1; exact e1.elim
   | some ds =>
     rw [gl] at e1
     dsimp only at e1
     have cell : ∀ {M2 : Mem} {es : List Zt.D}, getL M2 n = some es → M2[n]? = some (.lst es) := fun {M2 es} q => by
       unfold getL at q
       split at q
       · cases q; assumption
       · cases q
     obtain ⟨xs0, hx0, _⟩ := m.m.at (cell gl) hp
     refine ⟨a, xs0, rfl, hx0, ?_⟩
     rw [g.eK]
     refine ⟨fun i m σ H => ∃ ι ρ M, Ext ι1 H1 ι H ∧ Rl W S ι σ H ρ M ∧ EndS W S wx D ι H (forRL fb t n m i ρ M), ⟨ds.length + 1, ι1, ρ, M1, Ext.refl _ _, rl.go ex m, e1⟩, ?_⟩
     rintro i mm σ2 H2 ⟨ι2, ρ2, M2, x2, rl2, e2⟩
     cases mm with
     | zero => exact e2.elim
     | succ mm =>
       simp only [forRL] at e2
       cases gl2 : getL M2 n with
       | none => rw [gl2] at e2; exact e2.elim
       | some es =>
         rw [gl2] at e2
         dsimp only at e2
         obtain ⟨xs, hx, lx⟩ := rl2.m.m.at (cell gl2) (x2.at hp)
         have sq : SqL W.K H2 a xs := .inl (.inl hx)
         cases ge : es[i]? with
         | none =>
           rw [ge] at e2
           refine .inl ⟨⟨xs, sq, ?_⟩, e2 ι2 σ2 H2 (Ext.refl _ _) rl2⟩
           rw [lx.length]
           exact List.getElem?_eq_none_iff.mp ge
         | some d =>
           rw [ge] at e2
           dsimp only at e2
           have hlt : i < xs.length := by
             rw [lx.length]
             exact (List.getElem?_eq_some_iff.mp ge).1
           refine .inr ⟨⟨xs, xs[i], sq, List.getElem?_eq_getElem hlt⟩, _, fun σ' H' hH' => ⟨mm, Nat.lt_succ_self _, hH'⟩, fun x H3 hy => ?_⟩
           obtain ⟨eH, hxi⟩ := hy
           subst eH
           obtain ⟨d', hd', dx⟩ := lx.get' (hxi xs sq)
           rw [ge] at hd'
           cases hd'
           cases hbt : bindT t ρ2 (.d d) with
           | none => rw [hbt] at e2; exact e2.elim
           | some ρ3 =>
             rw [hbt] at e2
             dsimp only at e2
             exact ⟨ι2, ρ2, M2, .d d, ρ3, rl2, .d dx, hbt, fun σ' sr _ => ⟨ι2, ρ3, M2, ⟨sr, rl2.m⟩, EndS.bind (bk := D.nx) e2 fun ρ' M' ι' σ' H' _ x rl' e' => ⟨ι', ρ', M', x2.trans x, rl', e'⟩⟩⟩
theorem js_asgL (g : GX W G S k h cc X wx) {i : Nat} {st : Stmt} {f : Env → Mem → R Z} {t : TE} (hps : PS X st (tAsg t (gName i))) (ht : ∀ σ H Q, tD W S wx f σ H Q → t σ H Q) :
   PS X st (tS W S wx fun ρ M => (f ρ M).st ρ fun z M1 => .nx (ρ.set i (.z z)) M1) := by
 refine hps.imp fun D σ H hq => ?_
 obtain ⟨ι, ρ, M, rl, e⟩ := hq
 dsimp only at e
 exact ht σ H _ ⟨ι, ρ, M, rl, EndS.step rl.s e fun z M1 ι1 v H1 ex m dz e1 => e1 ι1 _ H1 (Ext.refl _ _) ⟨((rl.go ex m).s).set i dz, m⟩⟩
theorem set_both (hw : X.w = W.w) (hK : X.K = W.K) (hu : X.A.units + 9 < cLine) : PSet X (fun o i v H Q => rSetL o i v H Q ∨ rSetD o i v H Q ∨ rSetN W o i v H Q) := by
 intro pins s σ H o i v ov iv u Q I ro ri rv h
 rcases h with h | h | h
 · exact set_list pins s σ H o i v ov iv u Q I ro ri rv h
 · exact set_dict (by omega) pins s σ H o i v ov iv u Q I ro ri rv h
 · exact set_dit hw hK hu pins s σ H o i v ov iv u Q I ro ri rv h
theorem js_setI (g : GX W G S k h cc X wx) {o i u : Expr} {fo fi fu : Env → Mem → R Z} {p pos : Pos} (ho : PE X o (tD W S wx fo)) (hi : PE X i (tD W S wx fi)) (hu : PE X u (tD W S wx fu)) (hsl : notSlice i = true) (hs : swapsWithSole [.Subscript o i p] u pos.line X.env = pure false) (hw : swappedStores [.Subscript o i p] u X.env = pure none) :
   PS X (.Assign [.Subscript o i p] u pos) (tS W S wx fun ρ M => (fu ρ M).st ρ fun z M1 => (fo ρ M1).st ρ fun x M2 => (fi ρ M2).st ρ fun y M3 => match z, x, y with
   | .d d, .r n, .d w => putZ ρ M3 n w d
   | _, _, _ => .bad) := by
 refine (ps_asg hu (pg_sub ho hi (set_both g.eW g.eK (by have := g.units; omega)) (by intro v; cases i <;> first | rfl | cases hsl)) hs hw rfl).imp fun D σ H hq => ?_
 obtain ⟨ι, ρ, M, rl, e⟩ := hq
 dsimp only at e
 refine ⟨ι, ρ, M, rl, EndS.step rl.s e fun z M1 ι1 v1 H1 ex m d e1 => ?_⟩
 have rl1 := rl.go ex m
 refine ⟨ι1, ρ, M1, rl1, EndS.step rl1.s e1 fun x M2 ι2 v2 H2 ex2 m2 d2 e2 => ?_⟩
 have rl2 := rl1.go ex2 m2
 refine ⟨ι2, ρ, M2, rl2, EndS.step rl2.s e2 fun y M3 ι3 v3 H3 ex3 m3 d3 e3 => ?_⟩
 have rl3 := rl2.go ex3 m3
 have d' := (d.mono ex2).mono ex3
 have d2' := d2.mono ex3
 split at e3
 case h_2 => exact e3.elim
 rename_i dv n w
 cases d' with
 | d d' =>
 cases d2' with
 | @r _ a ha =>
 cases d3 with
 | d d3 =>
 unfold putZ at e3
 split at e3
 case h_4 => exact e3.elim
 · rename_i xs hM
   split at e3
   case h_2 => exact e3.elim
   cases d3
   split at e3
   case h_2 => exact e3.elim
   rename_i j kx hk
   obtain ⟨ys, q1, l⟩ := m3.cell hM ha
   exact .inl ⟨a, ys, _, kx, rfl, rfl, q1, by rw [l.length]; exact hk, e3 ι3 σ _ (Ext.wr (List.mem_of_getElem? ha) q1 fun _ _ z => nomatch z) ⟨rl3.s.mono (Ext.wr (List.mem_of_getElem? ha) q1 fun _ _ z => nomatch z), m3.wr ha q1 (l.set kx d')⟩⟩
 · rename_i kvs hM
   split at e3
   case h_2 => exact e3.elim
   rename_i kx hk
   split at e3
   case isFalse => exact e3.elim
   rename_i hlen
   obtain ⟨vs, q1, l⟩ := m3.cell hM ha
   have ey := den_key d3 hk
   have hx : Ext ι3 H3 ι3 (upd H3 a (.dK (putK vs kx v1))) := Ext.wr (List.mem_of_getElem? ha) q1 fun _ _ z => nomatch z
   refine .inr (.inl ⟨a, _, rfl, ?_, e3 ι3 σ (upd H3 a (.dK (putK vs kx v1))) hx ⟨rl3.s.mono hx, m3.wrO ha q1 (fun q z => by cases z) nt_dK ⟨_, upd_same, (l.put d').mono hx⟩⟩⟩)
   rw [ey]
   exact DPut.k q1 (sl_lt (by rw [l.length]; exact hlen))
 · rename_i kvs hM
   split at e3
   case h_2 => exact e3.elim
   rename_i kx hk
   split at e3
   case isFalse => exact e3.elim
   rename_i hlen
   obtain ⟨xs, q1, l⟩ := m3.cell hM ha
   rw [m3.wd] at q1
   obtain ⟨b, eb⟩ := tup_ref d3 hk
   subst eb
   have hx : Ext ι3 H3 ι3 (upd H3 a (.ext (rawN W.w a (putX xs kx b v1)))) := Ext.wr (List.mem_of_getElem? ha) q1 fun _ _ z => nomatch z
   have hl : xs.length < sizeLine := Nat.lt_of_lt_of_le (m := llen) (by rw [kv_len l.k]; exact hlen) (by decide +kernel)
   exact .inr (.inr ⟨ι3, a, xs, kvs, b, w, kx, rfl, q1, l, rfl, d3, hk, hl, e3 ι3 σ _ hx ⟨rl3.s.mono hx, m3.wrO ha q1 (fun q => rawN_code) nt_ext ⟨_, by rw [m3.wd]; exact upd_same, (l.put hk d3 d' hl).mono hx⟩⟩⟩)
theorem Ext.thaw {K0 : Unit} {ι ι' : Io} {H H' : Hp} {d : Addr} {u : HO} {od : Obj} (hd : d ∈ ι.pl) (hu : H d = some u) (hz : ∀ a b, u ≠ .frz a b) (e : Ext ι (upd H d (.frz od u)) ι' H') : Ext ι H ι' (upd H' d u) := by
 have ne : ∀ {a : Addr}, a ∉ ι → a ≠ d := fun h z => h (by rw [z]; exact .inl hd)
 refine ⟨e.suf, e.exs, fun a o q t n => e.nin a o (by rw [upd_ne (ne n)]; exact q) t n, fun a o q t n => ?_, e.fns, fun a o w q => ?_⟩
 · have hn : a ≠ d := fun z => n (by rw [z]; exact hd)
   obtain ⟨h1, h2⟩ := e.keep a o (by rw [upd_ne hn]; exact q) t n
   exact ⟨h1, by rw [upd_ne hn]; exact h2⟩
 · have hn : a ≠ d := fun z => by
     rw [z, hu] at q
     exact hz _ _ (Option.some.inj q)
   rw [upd_ne hn]
   exact e.fz a o w (by rw [upd_ne hn]; exact q)
def fzI (i : Nat) : Env → Mem → R (List Z) := fun ρ M => R.of (match getZ ρ i with
 | some (.r n) => match M[n]? with
   | some (.frz kvs) => some (kvs.map fun kv => .d kv.1)
   | _ => none
 | _ => none) M
theorem sv_keys {w : World} {ι0 : Io} {H0 : Hp} {d : Addr} {o : Obj} {xs : List Nx} {kvs : List (Zt.D × Zt.D)} (h : H0 d = some (.frz o (.ext (rawN w d xs)))) (l : KvN W.K ι0 H0 d xs kvs) : Sv W (ItN w d o xs) ι0 H0 (kvs.map fun kv => .d kv.1) := by
 have hl : (kvs.map fun kv => Z.d kv.1).length = xs.length := by rw [List.length_map, kv_len l.k]
 refine ⟨fun i ι H e hi => ⟨e.fz _ _ _ h, by rw [← hl]; exact hi⟩, fun i ι H e hi => ⟨e.fz _ _ _ h, by rw [← hl]; exact hi⟩, fun i ι H x H' e hm hi hy => ?_⟩
 obtain ⟨e2, y, hy, hx⟩ := hy
 subst e2 hx
 obtain ⟨d1, h1, h2⟩ := (l.kd.mono e).get' (show (xs.map fun x => V.ref x.2.1)[i]? = some (.ref y.2.1) by rw [List.getElem?_map, hy]; rfl)
 rw [List.getElem?_map] at h1
 obtain ⟨kv, h3, h4⟩ := Option.map_eq_some_iff.mp h1
 exact ⟨.d d1, by rw [List.getElem?_map, h3, ← h4]; rfl, .d h2, Ext.refl _ _, fun _ m => m⟩
theorem pim_keys (g : GX W G S k h cc X wx) {y it : Expr} {i : Nat} (he : PE X it (tD W S wx fun ρ M => R.of (getZ ρ i) M)) : Hh.PIM (MdH h) X y it (iZ W S wx (fzI i)) := by
 refine ((pim_keysM (tg := y) he).weak fun X z => z.md).imp fun σ H RR hq => ?_
 obtain ⟨ι, ρ, M, rl, e⟩ := hq
 unfold fzI at e
 cases q : getZ ρ i with
 | none => rw [q] at e; exact e.elim
 | some z =>
   rw [q] at e
   cases z with
   | d _ => exact e.elim
   | f _ => exact e.elim
   | r n =>
     dsimp only at e
     cases q2 : M[n]? with
     | none => rw [q2] at e; exact e.elim
     | some o1 =>
       rw [q2] at e
       cases o1 with
       | frz kvs =>
         refine ⟨ι, ρ, M, rl, ?_⟩
         show EndG W wx σ ι H _ _ (R.of (getZ ρ i) M)
         rw [q]
         intro ι1 v H1 ex m d
         cases d with
         | @r _ a ha =>
         obtain ⟨o, xs, h1, l⟩ := m.cell q2 ha
         rw [m.wd, ← g.eW] at h1
         exact ⟨a, o, xs, rfl, h1, l.m, e ι1 _ H1 ex m (sv_keys h1 l)⟩
       | _ => exact e.elim
theorem js_forD (g : GX W G S k h cc X wx) {t : Tg} {y it : Expr} {b : List Stmt} {i : Nat} {fb : Env → Mem → O} {pos : Pos} (he : PE X it (tD W S wx fun ρ M => R.of (getZ ρ i) M)) (hc : chkTg cc t y = true) (hb : PSs X b (tS W S wx fb))
   (hs : ∀ x, foldedSetIterable it X.env x = pure x) : PS X (.For y it b [] pos) (tS W S wx fun ρ M => match getZ ρ i with
     | some (.r n) => match M[n]? with
       | some (.dit kvs) => (forL fb t (kvs.map fun kv => .d kv.1) ρ (M.set n (.frz kvs))).thaw n kvs
       | _ => .bad
     | _ => .bad) := by
 refine (ps_lock (js_for g (pim_keys g he) hc hb hs)).imp fun D σ H hq => ?_
 obtain ⟨ι, ρ, M, rl, e⟩ := hq
 dsimp only at e
 cases q : getZ ρ i with
 | none => rw [q] at e; exact e.elim
 | some z =>
 rw [q] at e
 cases z with
 | d _ => exact e.elim
 | f _ => exact e.elim
 | r n =>
 dsimp only at e
 cases q2 : M[n]? with
 | none => rw [q2] at e; exact e.elim
 | some o1 =>
 rw [q2] at e
 cases o1 with
 | dit kvs =>
   dsimp only at e
   obtain ⟨x, hx, dx⟩ := rl.s.get q
   cases dx with
   | @r _ a ha =>
   obtain ⟨xs, h1, l⟩ := rl.m.cell q2 ha
   have ha2 : a ∈ ι.pl := List.mem_of_getElem? ha
   have hu : ∀ p r, HO.ext (rawN ι.fa.wd a xs) ≠ .frz p r := fun _ _ z => nomatch z
   refine ⟨a, _, h1, True.intro, fun od => ?_⟩
   have ex : Ext ι H ι (upd H a (.frz od (.ext (rawN ι.fa.wd a xs)))) := Ext.wr ha2 h1 hu
   have rl1 : Rl W S ι σ (upd H a (.frz od (.ext (rawN ι.fa.wd a xs)))) ρ (M.set n (.frz kvs)) := ⟨rl.s.mono ex, rl.m.wrO ha h1 (fun q => rawN_code) nt_frz ⟨od, xs, upd_same, l.mono ex⟩⟩
   refine ⟨ι, ρ, M.set n (.frz kvs), rl1, ?_⟩
   have hn : n < M.length := (List.getElem?_eq_some_iff.mp q2).1
   have hM : (M.set n (.frz kvs))[n]? = some (.frz kvs) := List.getElem?_set_self hn
   have ef : (fzI i ρ (M.set n (.frz kvs))) = .ok (kvs.map fun kv => .d kv.1) (M.set n (.frz kvs)) := by
     unfold fzI
     rw [q]
     dsimp only
     rw [hM]
     rfl
   show EndS W S wx _ ι _ ((fzI i ρ (M.set n (.frz kvs))).st ρ fun zs M1 => forL fb t zs ρ M1)
   rw [ef]
   show EndS W S wx _ ι _ (forL fb t (kvs.map fun kv => .d kv.1) ρ (M.set n (.frz kvs)))
   have thawM : ∀ {ι' : Io} {H' : Hp} {M' : Mem}, Ext ι (upd H a (.frz od (.ext (rawN ι.fa.wd a xs)))) ι' H' → MI W ι' H' M' → Ext ι H ι' (upd H' a (.ext (rawN ι.fa.wd a xs))) ∧ MI W ι' (upd H' a (.ext (rawN ι.fa.wd a xs))) (M'.set n (.dit kvs)) := fun {ι' H' M'} e' m' => by
     have x' := Ext.thaw (K0 := ()) ha2 h1 hu e'
     refine ⟨x', m'.wrO (e'.at ha) (e'.fz _ _ _ upd_same) (fun q z => nomatch z) nt_ext ⟨xs, by rw [e'.fns]; exact upd_same, l.mono x'⟩⟩
   generalize forL fb t (kvs.map fun kv => .d kv.1) ρ (M.set n (.frz kvs)) = o at e
   cases o with
   | bad => exact e
   | nx ρ' M' =>
     intro ι' σ' H' e' rl'
     obtain ⟨x', m'⟩ := thawM e' rl'.m
     exact ⟨e'.fz _ _ _ upd_same, e ι' σ' _ x' ⟨rl'.s.touch (.inl (List.mem_of_getElem? (e'.at ha))) (.inl (List.mem_of_getElem? (e'.at ha))), m'⟩⟩
   | rt z M' =>
     intro ι' v H' e' m' dz
     obtain ⟨x', m2⟩ := thawM e' m'
     exact ⟨e'.fz _ _ _ upd_same, e ι' v _ x' m2 (dz.touch (.inl (List.mem_of_getElem? (e'.at ha))))⟩
   | ex x ρ' M' =>
     intro ι' dx σ' H' e' rl' xf
     exact e ι' dx σ' H' (ex.trans e') rl' xf
 | _ => exact e.elim
end
end Zt
namespace Zt
open PySem PySem.Spec PyProof.Rows L2
section
variable {W : Wd} {G : Stat} {S : Sc} {k : Nat} {h : Bool} {cc : CC} {X : Cx} {wx : WX}
def relA (W : Wd) : Io → Hp → L2.It → List Z → Prop := fun _ _ J zs => ∀ ι H, Sv W J ι H zs
theorem pi_rngA (g : GX W G S k false cc X wx) {tg e : Expr} {f : Env → Mem → R Z} {p pos : Pos} (he : PE X e (tD W S wx f)) (hn : notStar e = true) (hg : isGlob cc ("range" : Str) = true) :
   PI X tg (.Call (.Name ("range" : Str) p) [e] [] pos) (tG W S wx (relA W) (rngS f)) := by
 have h := pi_range1 (tg := tg) (p := p) (pos := pos) (g.gl hg) (g.blt (by decide +kernel)) (pa_cons he pa_nil (star1 hn)) (star1 hn)
 refine ⟨fun pins s σ H RR I hq => h.run pins s σ H RR I ?_⟩
 obtain ⟨ι, ρ, M, rl, e⟩ := hq
 unfold rngS at e
 refine ⟨ι, ρ, M, rl, e.step fun z M1 ι1 v1 H1 ex m d e1 => ?_⟩
 split at e1
 · rename_i i
   cases d with
   | d d =>
     cases d
     split at e1
     · rename_i hc
       refine ⟨i, rfl, hc.2, hc.1, EndG.now e1 m fun ι0 H0 => ?_⟩
       have := sv_rng (W := W) (ι0 := ι0) (H0 := H0) (lo := 0) (hi := i)
       rw [Int.sub_zero] at this
       exact this
     · exact e1.elim
 · exact e1.elim
theorem lc2_rd {tg tg1 : Tg} {own own1 : List Nat} {fI : Env → Mem → R (List Z)} {f1 : Env → Mem → R Z} {fc fc1 : Env → Mem → R Bool} {fe : Env → Mem → R Z} {σ : St} {H : Hp} {Q : VK} (hq : tD W S wx (fun ρ M => (fI ρ M).bind fun zs M1 => if zs.length ≤ 4000 then
     ((lcL2 fc (rngS f1) (fun ρ' zs' M' => lcL fc1 fe tg1 (wipeE ρ' own1) zs' M') tg (wipeE ρ own) zs M1).calm).bind fun ds M2 => .ok (.d (.list ds)) M2 else .bad) σ H Q) :
   tLc2 (iZ W S wx fI) (gT W S tg own) (tDT W S wx0 fc) (tG W S wx0 (relA W) (rngS f1)) (gT W S tg1 own1) (tDT W S wx0 fc1) (tD W S wx0 fe) own own1 σ H Q := by
 obtain ⟨ι, ρ, M, rl, e⟩ := hq
 dsimp only at e
 refine ⟨ι, ρ, M, rl, e.step fun zs M1 ι1 J H1 ex m sv e1 => ?_⟩
 have sv : Sv W J ι1 H1 zs := sv
 have rl1 := rl.go ex m
 split at e1
 case isFalse => exact e1.elim
 rename_i hlen
 intro Dd hD
 generalize hL : lcL2 fc (rngS f1) (fun ρ' zs' M' => lcL fc1 fe tg1 (wipeE ρ' own1) zs' M') tg (wipeE ρ own) = LL at e1
 have stepL : ∀ z zs M, LL (z :: zs) M = match bindT tg (wipeE ρ own) z with
   | none => .bad
   | some ρ1 => (fc ρ1 M).bind fun b M1 =>
     if b then (rngS f1 ρ1 M1).bind fun zs1 M2 => if zs1.length ≤ 4000 then (lcL fc1 fe tg1 (wipeE ρ1 own1) zs1 M2).bind fun ds M3 => (LL zs M3).bind fun es M4 => .ok (ds ++ es) M4 else .bad
     else LL zs M1 := fun z zs M => by rw [← hL]; rfl
 have nilL : ∀ M, LL [] M = .ok [] M := fun M => by rw [← hL]; rfl
 generalize hr0 : ((LL zs M1).calm.bind fun ds M2 => R.ok (Z.d (.list ds)) M2) = r0 at e1
 have gone : ∀ {α : Prop}, r0 = .bad → α := fun {α} h => by
   rw [h] at e1
   exact e1.elim
 refine ⟨fun i m H2 => m = zs.length - i ∧ i ≤ zs.length ∧ ∃ ι2 M2 acc ds, Ext ι1 H1 ι2 H2 ∧ Dd ∈ ι2.ex ∧ Dd ∉ ι2.pl ∧ MI W ι2 H2 M2 ∧ H2 Dd = some (.lst acc) ∧ DenL W.K ι2 H2 acc ds ∧ ds.length ≤ i * 4000 ∧
   ((LL (zs.drop i) M2).calm.bind fun ds' M3 => R.ok (Z.d (.list (ds ++ ds'))) M3) = r0, ⟨zs.length, by simp, Nat.zero_le _, ι1.lock Dd, M1, [], [], Ext.lock hD, List.mem_cons_self, fun z => m.has Dd (.inl z) hD, m.lock nt_lst hD, upd_same, .nil, Nat.zero_le _, by simpa using hr0⟩, ?_⟩
 rintro i mm H2 ⟨rfl, hi2, ι2, M2, acc, ds, x2, d1, d2, m2, d3, l2, hl2, heq⟩
 by_cases hlt : i < zs.length
 case neg =>
   have e0 : i = zs.length := by omega
   refine .inl ⟨sv.stop i ι2 H2 x2 (by omega), ?_⟩
   rw [e0, List.drop_length, nilL] at heq
   have heq : R.ok (Z.d (.list (ds ++ []))) M2 = r0 := heq
   rw [← heq] at e1
   have hex : ∀ a ∈ ι1.ex, a ∈ ι2.ex := x2.exs
   refine e1 ⟨ι2.pl, ι1.ex, ι2.fa⟩ _ H2 ⟨x2.suf, fun _ z => z, fun a o q t n z => by
     rcases z with z | z
     · exact (x2.keep a o q t fun w => n (.inl w)).1 z
     · exact n (.inr z), x2.keep, x2.fns, x2.fz⟩ (m2.anti rfl rfl hex) (.d ?_)
   rw [List.append_nil]
   refine .lst ⟨fun z => ?_, d3⟩ (DenL.anti (ι := ι2) (ι' := ⟨ι2.pl, ι1.ex, ι2.fa⟩) (fun a z => ?_) rfl l2)
   · rcases z with z | z
     · exact d2 z
     · exact m.has Dd (.inr z) hD
   · rcases z with z | z
     · exact .inl z
     · exact .inr (hex a z)
 case pos =>
   refine .inr ⟨sv.go i ι2 H2 x2 hlt, _, fun H' hH' => ⟨zs.length - (i + 1), by omega, hH'⟩, fun x H3 hy => ?_⟩
   obtain ⟨z, hz, dz, x3, hm3⟩ := sv.yld i ι2 H2 x H3 x2 m2.has hlt hy
   obtain ⟨d1', d2', d3'⟩ := x3.apart d1 d2 d3
   have m3 := hm3 _ m2
   have l3 := l2.mono x3
   have hdrop : zs.drop i = z :: zs.drop (i + 1) := by
     rw [List.drop_eq_getElem_cons hlt]
     congr 1
     have := List.getElem?_eq_getElem hlt
     rw [this] at hz
     exact Option.some.inj hz
   rw [hdrop, stepL] at heq
   have x13 := x2.trans x3
   have sr : SR W.K S ι2 H3 (wipe σ own) (wipeE ρ own) := (rl1.s.mono x13).wipe own
   cases hbt : bindT tg (wipeE ρ own) z with
   | none =>
     simp only [hbt, R.calm, R.bind] at heq
     exact gone heq.symm
   | some ρ1 =>
     refine ⟨ι2, wipeE ρ own, M2, z, ρ1, ⟨sr, m3⟩, dz, hbt, fun σ' sr' hw => ⟨by rw [hw, wipe_in fun _ h => h], ι2, ρ1, M2, ⟨sr', m3⟩, ?_⟩⟩
     simp only [hbt] at heq
     cases hcv : fc ρ1 M2 with
     | bad =>
       simp only [hcv, R.calm, R.bind] at heq
       exact gone heq.symm
     | ex x1 M4 =>
       simp only [hcv, R.calm, R.bind] at heq
       exact gone heq.symm
     | ok b M4 =>
       intro ι4 b' H4 x4 m4 hb'
       cases (show b' = b from hb')
       obtain ⟨e1', e2', e3'⟩ := x4.apart d1' d2' d3'
       have l4 := l3.mono x4
       have x14 := x13.trans x4
       simp only [hcv, R.bind] at heq
       cases b with
       | false =>
         rw [if_neg Bool.false_ne_true] at heq ⊢
         exact ⟨rfl, hlt, ι4, M4, acc, ds, x14, e1', e2', m4, e3', l4, by omega, heq⟩
       | true =>
         rw [if_pos rfl] at heq ⊢
         refine ⟨ι4, ρ1, M4, ⟨sr'.mono x4, m4⟩, ?_⟩
         cases hsv : rngS f1 ρ1 M4 with
         | bad =>
           simp only [hsv, R.calm, R.bind] at heq
           exact gone heq.symm
         | ex x1 M5 =>
           simp only [hsv, R.calm, R.bind] at heq
           exact gone heq.symm
         | ok zs1 M5 =>
           intro ι5 J1 H5 x5 m5 sv1
           have sv1 : ∀ ι H, Sv W J1 ι H zs1 := sv1
           simp only [hsv] at heq
           obtain ⟨f1, f2, f3⟩ := x5.apart e1' e2' e3'
           have l5 := l4.mono x5
           have x15 := x14.trans x5
           have sr5 := (sr'.mono x4).mono x5
           by_cases hl1 : zs1.length ≤ 4000
           case neg =>
             simp only [if_neg hl1, R.calm, R.bind] at heq
             exact gone heq.symm
           simp only [if_pos hl1] at heq
           refine ⟨fun j kk H6 => kk = zs1.length - j ∧ j ≤ zs1.length ∧ ∃ ι6 M6 acc ds, SR W.K S ι6 H6 σ' ρ1 ∧ Ext ι1 H1 ι6 H6 ∧ Dd ∈ ι6.ex ∧ Dd ∉ ι6.pl ∧ MI W ι6 H6 M6 ∧ H6 Dd = some (.lst acc) ∧ DenL W.K ι6 H6 acc ds ∧ ds.length ≤ i * 4000 + j ∧
             (((lcL fc1 fe tg1 (wipeE ρ1 own1) (zs1.drop j) M6).bind fun ds1 M7 => (LL (zs.drop (i + 1)) M7).bind fun es M8 => .ok (ds1 ++ es) M8).calm.bind fun ds' M3 => R.ok (Z.d (.list (ds ++ ds'))) M3) = r0,
             ⟨zs1.length, by simp, Nat.zero_le _, ι5, M5, acc, ds, sr5, x15, f1, f2, m5, f3, l5, by omega, by rw [List.drop_zero]; exact heq⟩, ?_⟩
           rintro j kk H6 ⟨rfl, hj2, ι6, M6, acc, ds, s6, x6, g1, g2, m6, g3, l6, hl6, heq⟩
           by_cases hjt : j < zs1.length
           case neg =>
             have e0 : j = zs1.length := by omega
             refine .inl ⟨(sv1 ι6 H6).stop j ι6 H6 (Ext.refl _ _) (by omega), rfl, hlt, ι6, M6, acc, ds, x6, g1, g2, m6, g3, l6, by omega, ?_⟩
             rw [← heq, e0, List.drop_length]
             simp only [lcL, R.bind]
             cases LL (zs.drop (i + 1)) M6 <;> rfl
           case pos =>
             refine .inr ⟨(sv1 ι6 H6).go j ι6 H6 (Ext.refl _ _) hjt, _, fun H' hH' => ⟨zs1.length - (j + 1), by omega, hH'⟩, fun x H7 hy => ?_⟩
             obtain ⟨z1, hz1, dz1, x7, hm7⟩ := (sv1 ι6 H6).yld j ι6 H6 x H7 (Ext.refl _ _) m6.has hjt hy
             obtain ⟨g1', g2', g3'⟩ := x7.apart g1 g2 g3
             have m7 := hm7 _ m6
             have l7 := l6.mono x7
             have hdrop1 : zs1.drop j = z1 :: zs1.drop (j + 1) := by
               rw [List.drop_eq_getElem_cons hjt]
               congr 1
               have := List.getElem?_eq_getElem hjt
               rw [this] at hz1
               exact Option.some.inj hz1
             rw [hdrop1] at heq
             have x57 := x6.trans x7
             have sr7 : SR W.K S ι6 H7 (wipe σ' own1) (wipeE ρ1 own1) := (s6.mono x7).wipe own1
             cases hbt1 : bindT tg1 (wipeE ρ1 own1) z1 with
             | none =>
               simp only [lcL, hbt1, R.calm, R.bind] at heq
               exact gone heq.symm
             | some ρ2 =>
               refine ⟨ι6, wipeE ρ1 own1, M6, z1, ρ2, ⟨sr7, m7⟩, dz1, hbt1, fun σ3 sr3 hw3 => ⟨by rw [hw3, wipe_in fun _ h => h], ι6, ρ2, M6, ⟨sr3, m7⟩, ?_⟩⟩
               simp only [lcL, hbt1] at heq
               cases hcv1 : fc1 ρ2 M6 with
               | bad =>
                 simp only [hcv1, R.calm, R.bind] at heq
                 exact gone heq.symm
               | ex x1 M8 =>
                 simp only [hcv1, R.calm, R.bind] at heq
                 exact gone heq.symm
               | ok b M8 =>
                 intro ι8 b' H8 x8 m8 hb'
                 cases (show b' = b from hb')
                 obtain ⟨k1, k2, k3⟩ := x8.apart g1' g2' g3'
                 have l8 := l7.mono x8
                 have x58 := x57.trans x8
                 simp only [hcv1, R.bind] at heq
                 cases b with
                 | false =>
                   rw [if_neg Bool.false_ne_true] at heq ⊢
                   exact ⟨rfl, hjt, ι8, M8, acc, ds, (s6.mono x7).mono x8, x58, k1, k2, m8, k3, l8, by omega, heq⟩
                 | true =>
                   rw [if_pos rfl] at heq ⊢
                   refine ⟨ι8, ρ2, M8, ⟨sr3.mono x8, m8⟩, ?_⟩
                   cases hev : fe ρ2 M8 with
                   | bad =>
                     simp only [hev, R.calm, R.bind] at heq
                     exact gone heq.symm
                   | ex x1 M9 =>
                     simp only [hev, R.calm, R.bind] at heq
                     exact gone heq.symm
                   | ok y M9 =>
                     intro ι9 v9 H9 x9 m9 hv
                     obtain ⟨p1, p2, p3⟩ := x9.apart k1 k2 k3
                     have l9 := l8.mono x9
                     have x59 := x58.trans x9
                     simp only [hev] at heq
                     cases hv with
                     | r _ =>
                       simp only [R.calm, R.bind] at heq
                       exact gone heq.symm
                     | f _ =>
                       simp only [R.calm, R.bind] at heq
                       exact gone heq.symm
                     | @d _ yd hv =>
                       have hi4 : i * 4000 ≤ 4000 * 4000 - 4000 := by omega
                       have hacc : acc.length < sizeLine := Nat.lt_of_lt_of_le (m := 16000000) (by rw [l9.length]; omega) (by decide +kernel)
                       refine ⟨acc, p3, hacc, rfl, hjt, ι9, M9, acc ++ [v9], ds ++ [yd], (((s6.mono x7).mono x8).mono x9).touch (.inr p1) (.inr ⟨_, p3⟩), x59.touch hD, p1, p2, m9.touch p1 p2 p3, upd_same, (l9.append (.cons hv .nil)).touch (.inr p1), by simp; omega, ?_⟩
                       · rw [← heq]
                         cases lcL fc1 fe tg1 (wipeE ρ1 own1) (zs1.drop (j + 1)) M9 with
                         | bad => rfl
                         | ex _ _ => rfl
                         | ok ds1 M10 =>
                           simp only [R.bind, R.calm]
                           cases LL (zs.drop (i + 1)) M10 <;> simp [R.calm, R.bind]
theorem js_asg2 (g : GX W G S k false cc X wx) {elt t it t1 e1 : Expr} {cs cs1 : List Expr} {scope : Scope} {pos py spos p1 pos1 : Pos} {own own1 : List Nat} {tg tg1 : Tg} {i : Nat} {y : Str} {fI : Env → Mem → R (List Z)} {f1 : Env → Mem → R Z} {fc fc1 : Env → Mem → R Bool} {fe : Env → Mem → R Z}
   (hi : Hh.PIM (MdH false) X t it (iZ W S wx fI)) (hb : blkC cc.N cc.sc scope (own.filterMap fun j => (cc.N[j]?).map fun n => (n, j)) = true) (ho : own.all (fun j => decide (j < cc.N.length)) = true) (htg : ∀ i ∈ tg.ids, i ∈ own) (htg1 : ∀ i ∈ tg1.ids, i ∈ own1) (ho1 : ∀ i ∈ own1, i ∈ own)
   (hct : chkTg (blkCC cc scope) tg t = true) (hct1 : chkTg (blkCC cc scope) tg1 t1 = true)
   (hc : ∀ X', GX W G S k false (blkCC cc scope) X' wx0 → PTs X' cs (tDT W S wx0 fc)) (hc1 : ∀ X', GX W G S k false (blkCC cc scope) X' wx0 → PTs X' cs1 (tDT W S wx0 fc1)) (he : ∀ X', GX W G S k false (blkCC cc scope) X' wx0 → PE X' elt (tD W S wx0 fe)) (h1 : ∀ X', GX W G S k false (blkCC cc scope) X' wx0 → PE X' e1 (tD W S wx0 f1))
   (hn1 : notStar e1 = true) (hg1 : isGlob (blkCC cc scope) ("range" : Str) = true) (hs : ∀ x, foldedSetIterable it X.env x = pure x)
   (hN : cc.N[i]? = some y) (hy : cc.sc.names.lookup y = some .local) (hk : cc.sc.kind = .function) (hl : (py.line == pos.line) = true) (hn : (scope.names.any fun p => p.1 == y && (p.2 == .local || p.2 == .cell)) = false) :
   PS X (.Assign [.Name y py] (.ListComp elt [⟨t, it, cs, 0⟩, ⟨t1, .Call (.Name ("range" : Str) p1) [e1] [] pos1, cs1, 0⟩] scope pos) spos) (tS W S wx fun ρ M => ((fI ρ M).bind fun zs M1 => if zs.length ≤ 4000 then
     ((lcL2 fc (rngS f1) (fun ρ' zs' M' => lcL fc1 fe tg1 (wipeE ρ' own1) zs' M') tg (wipeE ρ own) zs M1).calm).bind fun ds M2 => .ok (.d (.list ds)) M2 else .bad).st ρ fun z M1 => .nx (ρ.set i (.z z)) M1) := by
 have hown : (own.filterMap fun j => (cc.N[j]?).map fun n => (n, j)).map (·.2) = own := by
   clear hb htg ho1
   induction own with
   | nil => rfl
   | cons j r ih =>
     rw [List.all_cons, Bool.and_eq_true] at ho
     have hj : j < cc.N.length := of_decide_eq_true ho.1
     rw [List.filterMap_cons, List.getElem?_eq_getElem hj]
     show j :: _ = _
     rw [ih ho.2]
 have hok : BlkOk X.N X.env.scope scope (own.filterMap fun j => (cc.N[j]?).map fun n => (n, j)) := by
   rw [g.eN, g.eS]
   exact blkOk_by hb
 have hys : X.env.scope.names.lookup y = some .local := by rw [g.eS]; exact hy
 have ps := ps_setLc2 (spos := spos) (pos := pos) (py := py) (g.calm rfl).1 g.nd (show X.N[i]? = some y by rw [g.eN]; exact hN) hys (sw_true (by rw [g.eS]; exact hk) hys hl hn) (pi_of hi) hok (vs1 := own1) (fun i hi => by rw [hown]; exact ho1 i hi)
   (fun s H C cl fp => g_tg (g.blk0 s H scope C cl fp) hct htg) (fun s H C cl fp => hc _ (g.blk0 s H scope C cl fp))
   (fun s H C cl fp => pi_rngA (g.blk0 s H scope C cl fp) (tg := t1) (p := p1) (pos := pos1) (h1 _ (g.blk0 s H scope C cl fp)) hn1 hg1)
   (fun s H C cl fp => g_tg (g.blk0 s H scope C cl fp) hct1 htg1) (fun s H C cl fp => hc1 _ (g.blk0 s H scope C cl fp)) (fun s H C cl fp => he _ (g.blk0 s H scope C cl fp)) hs (fun _ _ => rfl)
 rw [hown] at ps
 exact js_asgL g ps fun σ H Q hq => lc2_rd hq
theorem j_dget (g : GX W G S k h cc X wx) {o y z : Expr} {fo fy fz : Env → Mem → R Z} {ap p : Pos} (ho : PE X o (tD W S wx fo)) (hy : PE X y (tD W S wx fy)) (hz : PE X z (tD W S wx fz)) (hn : notStar y = true) (hn2 : notStar z = true) (hp : plainRecv o = true) (hl : (ap.endLine == p.line) = true) :
   PE X (.Call (.Attribute o ("get" : Str) ap) [y, z] [] p) (tD W S wx fun ρ M => (fo ρ M).bind fun x M1 => if isDit x M1 then (fy ρ M1).bind fun u M2 => (fz ρ M2).bind fun v M3 => getz x u v M3 else .bad) := by
 have m : M2 X o "get" ap y z p := ⟨base_of hp _, few_of (es := [y, z]) (by simp [hn, hn2]) (by simp), hl, by rw [star_of hn, star_of hn2]; rfl⟩
 refine (pe_dgetN g.eW g.eK (by have := g.units; omega) ho hy hz m).imp fun σ H Q hq => ?_
 obtain ⟨ι, ρ, M, rl, e⟩ := hq
 dsimp only at e
 refine ⟨ι, ρ, M, rl, e.step fun x M1 ι1 v1 H1 ex mm d e1 => ?_⟩
 split at e1
 case isFalse => exact e1.elim
 rename_i hd
 cases d with
 | d _ => cases hd
 | f _ => cases hd
 | @r n a ha =>
   have hd : (match M1[n]? with
     | some (.dit _) => true
     | _ => false) = true := hd
   cases q : M1[n]? with
   | none => rw [q] at hd; cases hd
   | some o1 =>
     rw [q] at hd
     cases o1 with
     | dit kvs =>
       refine ⟨ι1, a, kvs, rfl, mm.dit (.inl q) ha, ι1, ρ, M1, rl.go ex mm, e1.step fun u M2 ι2 v2 H2 ex2 m2 d2 e2 => ?_⟩
       refine ⟨ι2, ρ, M2, (rl.go ex mm).go ex2 m2, e2.step fun v M3 ι3 v3 H3 ex3 m3 d3 e3 => ?_⟩
       have ha3 := ex3.at (ex2.at ha)
       cases d2 with
       | r _ => exact e3.elim
       | f _ => exact e3.elim
       | @d _ u d2 =>
       cases d3 with
       | r _ => exact e3.elim
       | f _ => exact e3.elim
       | @d _ v d3 =>
       have e3 : EndG W wx σ ι3 H3 (DenZ W.K) Q (match M3[n]? with
         | some (.dit kvs) => R.of ((tupKey u).map fun k => .d ((lookN kvs k).getD v)) M3
         | _ => .bad) := e3
       cases q3 : M3[n]? with
       | none => rw [q3] at e3; exact e3.elim
       | some o3 =>
         rw [q3] at e3
         cases o3 with
         | dit kvs3 =>
           cases qk : tupKey u with
           | none => rw [qk] at e3; exact e3.elim
           | some kx =>
             rw [qk] at e3
             have e3 : EndG W wx σ ι3 H3 (DenZ W.K) Q (.ok (.d ((lookN kvs3 kx).getD v)) M3) := e3
             refine ⟨ι3, kvs3, u, kx, m3.dit (.inl q3) ha3, d2.mono ex3, qk, fun d w hw dw => ?_, fun hw => ?_⟩
             · rw [hw] at e3
               exact e3 ι3 w H3 (Ext.refl _ _) m3 (.d dw)
             · rw [hw] at e3
               exact e3 ι3 _ H3 (Ext.refl _ _) m3 (.d d3)
         | _ => exact e3.elim
     | _ => cases hd
end
end Zt
namespace Zt
open PySem PySem.Spec PyProof.Rows L2
section
variable {W : Wd} {G : Stat} {S : Sc} {k : Nat} {h : Bool} {cc : CC} {X : Cx} {wx : WX}
theorem parName_inv {line i : Nat} {e : Expr} (h : parName cc line (i, e) = true) : ∃ x q, e = .Name x q ∧ cc.N[i]? = some x ∧ cc.sc.names.lookup x = some .local ∧ (q.line == line) = true := by
 cases e with
 | Name x q =>
   have h : (decide (cc.N[i]? = some x) && decide (cc.sc.names.lookup x = some .local) && (q.line == line)) = true := h
   rw [Bool.and_eq_true, Bool.and_eq_true] at h
   exact ⟨x, q, rfl, of_decide_eq_true h.1.1, of_decide_eq_true h.1.2, h.2⟩
 | _ => cases h
theorem len2 {α : Type} : ∀ {xs : List α}, xs.length = 2 → ∃ a b, xs = [a, b]
 | [a, b], _ => ⟨a, b, rfl⟩
 | [], h => nomatch h
 | [_], h => nomatch h
 | _ :: _ :: _ :: _, h => by simp at h
theorem len3 {α : Type} : ∀ {xs : List α}, xs.length = 3 → ∃ a b c, xs = [a, b, c]
 | [a, b, c], _ => ⟨a, b, c, rfl⟩
 | [], h => nomatch h
 | [_], h => nomatch h
 | [_, _], h => nomatch h
 | _ :: _ :: _ :: _ :: _, h => by simp at h
theorem kind_x {env : PySem.Env} (hs : env.scope = cc.sc) {x : Str} (h : cc.sc.names.lookup x = some .local) : (env.kindOf x == some .local) = true := by
 have hk : env.kindOf x = some .local := by
   show env.scope.names.lookup x = _
   rw [hs]
   exact h
 rw [hk]
 rfl
theorem sw_par {env : PySem.Env} (hs : env.scope = cc.sc) (hk : env.scope.kind = .function) {is : List Nat} {ts vs : List Expr} {kt k2 : Nat} {pt p2 : Pos} (hc : parOk cc is ts vs = true) :
   swappedStores [.Tuple ts kt pt] (.Tuple vs k2 p2) env = pure (some (ts.map nameOf)) := by
 unfold parOk at hc
 simp only [Bool.and_eq_true, Bool.not_eq_true'] at hc
 obtain ⟨⟨⟨⟨⟨⟨⟨h1, h2⟩, h3⟩, h4⟩, h5⟩, h6⟩, h7⟩, h8⟩ := hc
 have hb : env.blockKind = .function := by unfold Env.blockKind; rw [hk] <;> rfl
 have hv : ∀ (b : Bool), (vs.any fun | .Starred .. => true | _ => false) = b → b = false := fun b e => by
   rw [← e, List.any_eq_false]
   intro y hy
   have q := List.all_eq_true.mp h4 y hy
   cases y <;> first | exact Bool.false_ne_true | cases q
 have hl : is.length = ts.length := by simpa using h3
 have h2' : vs.length = ts.length := by simpa using h2
 rw [Bool.or_eq_true] at h1
 unfold swappedStores
 dsimp only
 rcases h1 with h1 | h1
 · have e2 : ts.length = 2 := by simpa using h1
   obtain ⟨a, b, rfl⟩ := len2 e2
   obtain ⟨i, j, rfl⟩ := len2 (hl.trans e2)
   · simp only [List.zip_cons_cons, List.zip_nil_right, List.all_cons, List.all_nil, Bool.and_eq_true] at h7
     obtain ⟨x, q, rfl, g1, g2, g3⟩ := parName_inv h7.1
     obtain ⟨y, r, rfl, g4, g5, g6⟩ := parName_inv h7.2.1
     simp only [List.head?_cons, Option.map_some, Option.getD_some] at g3 g6
     have h8 : ([x, y].eraseDups.length == 2) = true := h8
     have h8 : [x, y].eraseDups.length = 2 := by simpa using h8
     rw [if_neg (by simp [hb, h2'])]
     split
     · rename_i z
       exact absurd (hv true z) (fun z => nomatch z)
     simp only [List.filterMap_cons, List.filterMap_nil, kind_x hs g2, kind_x hs g5, g3, g6, Bool.and_self, if_true, List.head?_cons, Option.map_some, Option.getD_some, h5, h6, pure_bind, List.length_cons, List.length_nil, h8]
     rfl
 · have e2 : ts.length = 3 := by simpa using h1
   obtain ⟨a, b, c, rfl⟩ := len3 e2
   obtain ⟨i, j, l, rfl⟩ := len3 (hl.trans e2)
   · simp only [List.zip_cons_cons, List.zip_nil_right, List.all_cons, List.all_nil, Bool.and_eq_true] at h7
     obtain ⟨x, q, rfl, g1, g2, g3⟩ := parName_inv h7.1
     obtain ⟨y, r, rfl, g4, g5, g6⟩ := parName_inv h7.2.1
     obtain ⟨w, t, rfl, g7, g8, g9⟩ := parName_inv h7.2.2.1
     simp only [List.head?_cons, Option.map_some, Option.getD_some] at g3 g6 g9
     have h8 : ([x, y, w].eraseDups.length == 3) = true := h8
     have h8 : [x, y, w].eraseDups.length = 3 := by simpa using h8
     rw [if_neg (by simp [hb, h2'])]
     split
     · rename_i z
       exact absurd (hv true z) (fun z => nomatch z)
     simp only [List.filterMap_cons, List.filterMap_nil, kind_x hs g2, kind_x hs g5, kind_x hs g8, g3, g6, g9, Bool.and_self, if_true, List.head?_cons, Option.map_some, Option.getD_some, h5, h6, pure_bind, List.length_cons, List.length_nil, h8]
     rfl
theorem unpackM (hm : Hh.Md X) {pins : List (Addr × Obj)} {σ : St} {H : Hp} {s : Shared} {t : Addr} {items : Array Value} {Q : List Value → Shared → Prop} {E : Value → Shared → Prop} (I : Inv X pins σ H s) (ht : IsTup s.heap t items)
   (hQ : ∀ g, Inv X pins σ H { s with heap := g } → Q items.toList { s with heap := g }) : wpAny (model X.prog X.w) X.A (unpackItems (.ref t) items.size none) Q E s := by
 rcases hm with hc | ⟨p, ⟨hh, vs, e2, c1⟩, hp⟩
 · exact unpackItems_tuple (items := items) (I.ok.hd hc) ht fun h' hx' => hQ h' (I.kept (t' := s.toks) fun b o e => hx' b o (Nat.ne_of_lt (Heap.lt_size e)) e)
 · have hp' : p ∈ X.pn ++ pins := List.mem_append_left _ hp
   exact Hh.parts_hot (x1 := p.1) ⟨hh, p.2, vs, (I.pin p hp').1, e2, c1⟩ ht fun h' hx' => hQ h' (I.kept (t' := s.toks) fun b o e => hx' b o (Nat.ne_of_lt (Heap.lt_size e)) e)
theorem assign_names (hN : X.N.Nodup) : ∀ {is : List Nat} {ns : List Str} {us : List Value} {vs : List V} {pins : List (Addr × Obj)} {σ : St} {H : Hp} {s : Shared} {Q : Unit → Shared → Prop}, is.length = ns.length → vs.length = is.length →
   (∀ p ∈ is.zip ns, X.N[p.1]? = some p.2 ∧ X.env.scope.names.lookup p.2 = some .local) → Inv X pins σ H s → Vals vs us → (∀ s', Inv X pins (setσ σ is vs) H s' → Q () s') →
   wpAny (model X.prog X.w) X.A (assignInOrder (ns.map fun n => fun v => bindName X.env n v) us) Q X.xe s
 | [], [], us, vs, pins, σ, H, s, Q, _, hl, _, I, r, hQ => by
   have : vs = [] := List.length_eq_zero_iff.mp hl
   subst this
   cases r
   exact assignInOrder_nil (hQ s I)
 | i :: is, n :: ns, us, vs, pins, σ, H, s, Q, h1, h2, h3, I, r, hQ => by
   cases r with
   | nil => cases h2
   | cons rv rr =>
     obtain ⟨g1, g2⟩ := h3 (i, n) (by simp)
     exact assignInOrder_cons (wpAny_bindName (store_ok I hN g1 (.inl g2) rv (fun s2 I2 => assign_names hN (Nat.succ.inj h1) (Nat.succ.inj h2) (fun p hp => h3 p (by
       rw [List.zip_cons_cons]
       exact List.mem_cons_of_mem _ hp)) I2 rr hQ) (.inr g2)))
 | [], _ :: _, _, _, _, _, _, _, _, h1, _, _, _, _, _ => nomatch h1
 | _ :: _, [], _, _, _, _, _, _, _, h1, _, _, _, _, _ => nomatch h1
theorem sr_setZ {K : PySem.W.Frag} {ι : Io} {H : Hp} : ∀ {is : List Nat} {vs : List V} {zs : List Z} {σ : St} {ρ : Env}, SR K S ι H σ ρ → DenZL K ι H vs zs → SR K S ι H (setσ σ is vs) (setZ ρ is zs)
 | [], _, [], σ, ρ, s, .nil => s
 | [], _, _, σ, ρ, s, .cons _ _ => s
 | i :: is, _, [], σ, ρ, s, .nil => s
 | i :: is, _, _, σ, ρ, s, .cons (v := v) (d := z) d l => by
   show SR K S ι H (setσ (σ.set i (some v)) is _) (setZ (ρ.set i (.z z)) is _)
   exact sr_setZ (s.set i d) l
theorem DenZL.append {K : PySem.W.Frag} {ι : Io} {H : Hp} : ∀ {vs ws : List V} {zs ys : List Z}, DenZL K ι H vs zs → DenZL K ι H ws ys → DenZL K ι H (vs ++ ws) (zs ++ ys)
 | _, _, _, _, .nil, l => l
 | _, _, _, _, .cons h r, l => .cons h (DenZL.append r l)
theorem DenZL.reverse {K : PySem.W.Frag} {ι : Io} {H : Hp} : ∀ {vs : List V} {zs : List Z}, DenZL K ι H vs zs → DenZL K ι H vs.reverse zs.reverse
 | _, _, .nil => .nil
 | _, _, .cons h r => by
   rw [List.reverse_cons, List.reverse_cons]
   exact DenZL.append (DenZL.reverse r) (.cons h .nil)
theorem zip_par {line : Nat} : ∀ {is : List Nat} {ts : List Expr}, (is.zip ts).all (parName cc line) = true → ∀ p ∈ is.zip (ts.map nameOf), cc.N[p.1]? = some p.2 ∧ cc.sc.names.lookup p.2 = some .local
 | [], _, _, p, hp => by simp at hp
 | _ :: _, [], _, p, hp => by simp at hp
 | i :: is, t :: ts, h, p, hp => by
   rw [List.zip_cons_cons, List.all_cons, Bool.and_eq_true] at h
   rw [List.map_cons, List.zip_cons_cons] at hp
   rcases List.mem_cons.mp hp with e | e
   · obtain ⟨x, q, rfl, h1, h2, _⟩ := parName_inv h.1
     rw [e]
     exact ⟨h1, h2⟩
   · exact zip_par h.2 p e
theorem zip_rev {α β : Type} {xs : List α} {ys : List β} (h : xs.length = ys.length) : xs.reverse.zip ys.reverse = (xs.zip ys).reverse := by
 rw [List.zip_eq_zipWith, List.zip_eq_zipWith, List.reverse_zipWith h]
theorem js_par (g : GX W G S k h cc X wx) {is : List Nat} {ts vs : List Expr} {r : Env → Mem → R (List Z)} {kt k2 : Nat} {pt p2 pos : Pos} (hr : PA X vs (tDs W S wx r)) (hc : parOk cc is ts vs = true) :
   PS X (.Assign [.Tuple ts kt pt] (.Tuple vs k2 p2) pos) (tS W S wx fun ρ M => (r ρ M).st ρ fun zs M1 => if zs.length = is.length then .nx (setZ ρ is.reverse zs.reverse) M1 else .bad) := by
 refine ⟨fun pins s σ H D I hq => ?_⟩
 obtain ⟨ι, ρ, M, rl, e⟩ := hq
 dsimp only at e
 have hw : swappedStores [.Tuple ts kt pt] (.Tuple vs k2 p2) X.env = pure (some (ts.map nameOf)) := sw_par g.eS I.ok.kind hc
 rw [exec_Assign_arm]
 refine wpAny_bind (wpAny_standAt ?_)
 rw [show swapsWithSole [.Tuple ts kt pt] (.Tuple vs k2 p2) pos.line X.env = pure false from rfl]
 refine wpAny_bind (wpAny_pure ?_)
 rw [if_neg (by decide)]
 refine wpAny_bind (Tuple_ (thn (hr.run _ pins s σ H _ I ⟨ι, ρ, M, rl, EndS.step rl.s e fun z M1 ι1 v1 H1 ex m d e1 => show ∃ ι1 zs M1, Rl W S ι1 σ H1 ρ M1 ∧ DenZL W.K ι1 H1 v1 zs ∧ EndS W S wx D ι1 H1 (if zs.length = is.length then .nx (setZ ρ is.reverse zs.reverse) M1 else .bad) from ⟨ι1, z, M1, rl.go ex m, d, e1⟩⟩) fun us s1 ⟨vs', H1, I1, r1, q1⟩ => ?_))
 obtain ⟨ι1, zs, M1, rl1, d, e1⟩ := q1
 split at e1
 case isFalse => exact e1.elim
 rename_i hlen
 unfold parOk at hc
 simp only [Bool.and_eq_true, Bool.not_eq_true'] at hc
 obtain ⟨⟨⟨⟨⟨⟨⟨h1, h2⟩, h3⟩, h4⟩, h5⟩, h6⟩, h7⟩, h8⟩ := hc
 have hl : is.length = ts.length := by simpa using h3
 have hus : us.length = (ts.map nameOf).length := by rw [← r1.length, d.length, hlen, hl, List.length_map]
 have hsz : us.length ≤ sizeLine := by
   rw [hus, List.length_map]
   rw [Bool.or_eq_true] at h1
   rcases h1 with z | z
   · rw [show ts.length = 2 by simpa using z]; decide
   · rw [show ts.length = 3 by simpa using z]; decide
 refine wpAny_newObj_type ?_ (by show us.toArray.size ≤ sizeLine; simpa using hsz)
 have I2 : Inv X pins σ H1 { s1 with heap := s1.heap.push { cls := .type "tuple", data := .seq us.toArray } } := I1.kept (t' := s1.toks) fun b o e => Heap.get?_push_of_some _ e
 rw [hw]
 refine wpAny_bind (wpAny_pure ?_)
 show wpAny (model X.prog X.w) X.A (do rule "assign.swapped-stores"; let items ← unpackItems (.ref s1.heap.objs.size) (ts.map nameOf).length none; assignInOrder ((ts.map nameOf).reverse.map fun n => bindName X.env n) items.reverse; pure Flow.next) _ _ _
 rw [show (ts.map nameOf).length = us.toArray.size by simpa using hus.symm]
 refine wpAny_bind (wpAny_rule (wpAny_bind (unpackM g.mdh.md I2 (IsTup.new s1.heap _) fun h' I3 => ?_)))
 refine wpAny_bind (assign_names g.nd (is := is.reverse) (vs := vs'.reverse) (by simp [hl]) (by simp [d.length, hlen]) (fun p hp => ?_) I3 (by simpa using r1.reverse) fun s4 I4 => wpAny_pure ?_)
 · rw [zip_rev (by simp [hl])] at hp
   obtain ⟨a1, a2⟩ := zip_par h7 p (List.mem_reverse.mp hp)
   exact ⟨by rw [g.eN]; exact a1, by rw [g.eS]; exact a2⟩
 · exact ⟨_, H1, I4, e1 ι1 _ H1 (Ext.refl _ _) ⟨sr_setZ rl1.s d.reverse, rl1.m⟩⟩
theorem sw_none {ts vs : List Expr} {kt k2 : Nat} {pt p2 : Pos} {env : PySem.Env} (h : 4 ≤ ts.length) : swappedStores [.Tuple ts kt pt] (.Tuple vs k2 p2) env = pure none := by
 have h2 : (ts.length == 2) = false := by simp; omega
 have h3 : (ts.length == 3) = false := by simp; omega
 unfold swappedStores
 dsimp only
 rw [if_pos (by rw [h2, h3]; rfl)]
theorem sw_fold {ts vs : List Expr} {kt k2 : Nat} {pt p2 : Pos} {env : PySem.Env} (h : vs.all (foldedForSure 8) = true) : swappedStores [.Tuple ts kt pt] (.Tuple vs k2 p2) env = pure none := by
 unfold swappedStores
 dsimp only
 refine ite_eq_left_iff.mpr fun _ => ?_
 refine ite_eq_left_iff.mpr fun _ => ?_
 refine ite_eq_left_iff.mpr fun _ => ?_
 rw [if_pos h]
theorem kind_c {env : PySem.Env} (hs : env.scope = cc.sc) {x : Str} (h : cc.sc.names.lookup x = some .cell) : (env.kindOf x == some .local) = false := by
 have hk : env.kindOf x = some .cell := by
   show env.scope.names.lookup x = _
   rw [hs]
   exact h
 rw [hk]
 rfl
theorem fm_less {α β : Type} {f : α → Option β} : ∀ {xs : List α} {x : α}, x ∈ xs → f x = none → (xs.filterMap f).length < xs.length
 | y :: ys, x, hm, h => by
   rcases List.mem_cons.mp hm with e | e
   · rw [List.filterMap_cons, ← e, h]
     exact Nat.lt_succ_of_le (List.length_filterMap_le ..)
   · have := fm_less e h
     rw [List.filterMap_cons]
     split
     · rw [List.length_cons]; omega
     · rw [List.length_cons, List.length_cons]; omega
theorem sw_cell {ts vs : List Expr} {kt k2 : Nat} {pt p2 : Pos} {env : PySem.Env} (hs : env.scope = cc.sc) (h : hasCell cc ts = true) : swappedStores [.Tuple ts kt pt] (.Tuple vs k2 p2) env = pure none := by
 obtain ⟨t, ht, h⟩ := List.any_eq_true.mp h
 split at h
 case h_2 => cases h
 rename_i y q
 have h := of_decide_eq_true h
 unfold swappedStores
 dsimp only
 refine ite_eq_left_iff.mpr fun _ => ?_
 refine ite_eq_left_iff.mpr fun _ => ?_
 have l := fm_less (f := fun x => match x with
   | .Name id pos => if env.kindOf id == some .local && pos.line == (ts.head?.map (·.pos.line)).getD 0 then some id else none
   | _ => none) ht (by simp only [kind_c hs h, Bool.false_and, Bool.false_eq_true, if_false])
 rw [if_pos (by
   rw [Bool.or_eq_true]
   left
   exact bne_iff_ne.mpr (Nat.ne_of_lt l))]
theorem sw_or {ts vs : List Expr} {kt k2 : Nat} {pt p2 : Pos} {env : PySem.Env} (hs : env.scope = cc.sc) (h : (decide (4 ≤ ts.length) || vs.all (foldedForSure 8) || hasCell cc ts) = true) : swappedStores [.Tuple ts kt pt] (.Tuple vs k2 p2) env = pure none := by
 rcases (Bool.or_eq_true _ _).mp h with h | h
 · rcases (Bool.or_eq_true _ _).mp h with h | h
   · exact sw_none (of_decide_eq_true h)
   · exact sw_fold h
 · exact sw_cell hs h
theorem js_parN (g : GX W G S k h cc X wx) {is : List Nat} {ts vs : List Expr} {r : Env → Mem → R (List Z)} {kt k2 : Nat} {pt p2 pos : Pos} (hr : PA X vs (tDs W S wx r)) (h4 : (decide (4 ≤ ts.length) || vs.all (foldedForSure 8) || hasCell cc ts) = true) (h20 : ts.length ≤ 20) (hl : is.length = ts.length) (hn : ((is.zip ts).all fun p => match p.2 with
     | .Name y _ => decide (cc.N[p.1]? = some y) && isLoc cc y
     | _ => false) = true) :
   PS X (.Assign [.Tuple ts kt pt] (.Tuple vs k2 p2) pos) (tS W S wx fun ρ M => (r ρ M).st ρ fun zs M1 => if zs.length = is.length then .nx (setZ ρ is zs) M1 else .bad) := by
 obtain ⟨a1, a2⟩ := asEach_names (env := X.env) hl hn
 refine (ps_asg (pe_tup hr) (pg_tupM (pos := pt) (k := kt) g.mdh.md (pgs_names g.nd g.eN g.locs hl hn) a1 a2) rfl (sw_or g.eS h4) rfl).imp fun D σ H hq => ?_
 obtain ⟨ι, ρ, M, rl, e⟩ := hq
 dsimp only at e
 refine ⟨ι, ρ, M, rl, EndS.step rl.s e fun zs M1 ι1 vs1 H1 ex m d e1 => ?_⟩
 split at e1
 case isFalse => exact e1.elim
 rename_i hz
 have lv : vs1.length = is.length := d.length.trans hz
 have big : (20 : Nat) ≤ sizeLine := by decide
 refine ⟨by rw [lv, hl]; omega, fun p hp => ⟨p, vs1, rfl, .inl (.inl upd_same), by rw [lv], by rw [lv], ?_⟩⟩
 have x2 : Ext ι1 H1 ι1 (upd H1 p (.tup vs1)) := Ext.new hp
 exact e1 ι1 _ _ x2 ⟨sr_setZ (rl.s.mono (ex.trans x2)) (d.mono x2), m.new hp⟩
end
end Zt
namespace Zt
open PySem PySem.Spec PyProof.Rows L2
abbrev newSet (w : World) : Obj := { cls := .type "set", dict := none, data := .set #[] 0 (.fresh 0 0 (!w.params.followText "set-order")) }
section
variable {P : Program} {w : World} {A : Around} {I : Addr} {fp wr : List Addr} {G : Array GenState → Array GenState → Prop} {n : Nat} {Pv : Nat → Value → Prop} {St : Nat → Shared → Prop} {R : Result → Shared → Prop}
theorem grow_loop (W : WalksS P w A.in1 I fp wr G n Pv St) (d : Addr) (hdf : d ∉ fp) (Iv : Nat → Heap → Prop) (hkeep : ∀ i h g, Iv i h → (∀ b o, b ∉ wr → h.get? b = some o → g.get? b = some o) → Iv i g)
   (hstep : ∀ (X : Value → Shared → Prop) i v (u : Shared) (Q : Bool → Shared → Prop), i < n → Pv i v → Iv i u.heap → (∀ b g tk, u.toks ≤ tk → Heap.SameBut d u.heap g → Iv (i + 1) g → Q b { u with heap := g, toks := tk }) → wpAny (model P w) A.in1 (setAdd d v) Q X u) :
   ∀ (m i : Nat) (u : Shared), n - i = m → i ≤ n → St i u → Iv i u.heap → (∀ z, Moved (d :: wr) G u z → Iv n z.heap → R (.ok (.ret .none)) z) → codeAny (model P w) A (.builtin "set.update.loop" ⟨[.ref d, .ref I], []⟩) R u := by
 have dw : d ∉ wr := fun h => hdf (W.sub _ h)
 have up : ∀ b ∈ wr, b ∈ d :: wr := fun b hb => .tail _ hb
 intro m
 induction m with
 | zero =>
   intro i u e1 e2 st iv hR
   obtain rfl : i = n := by omega
   refine codeAny_builtin PyProof.Rows.F.entry_set_update_loop ?_; rw [Around.under_plainId PyProof.Rows.F.plain_set_update_loop _]
   show wpAny _ A.in1 (pyNext (.ref I) >>= _) _ _ u
   refine wpAny_bind (W.done u _ _ st fun z mv => ?_); show wpAny _ A.in1 (ret Value.none) _ _ z
   exact wpAny_pure (hR z (mv.mono up) (hkeep _ _ _ iv fun b o hb e => mv.heap b o hb e))
 | succ m ih =>
   intro i u e1 e2 st iv hR
   have lt : i < n := by omega
   refine codeAny_builtin PyProof.Rows.F.entry_set_update_loop ?_; rw [Around.under_plainId PyProof.Rows.F.plain_set_update_loop _]
   show wpAny _ A.in1 (pyNext (.ref I) >>= _) _ _ u
   refine wpAny_bind (W.item i u _ _ lt st fun v z pv st2 mv => ?_)
   have iv2 : Iv i z.heap := hkeep _ _ _ iv fun b o hb e => mv.heap b o hb e
   show wpAny _ A.in1 (holding [v] (setAdd d v) >>= _) _ _ z
   refine wpAny_bind (wpAny_holding (hstep _ i v z _ lt pv iv2 fun b g tk ht sb iv3 => ?_))
   refine wpAny_pure ⟨plainId_quiet PyProof.Rows.F.plain_set_update_loop _, ih (i + 1) { z with heap := g, toks := tk } (by omega) lt (W.frame _ z _ _ st2 ht fun b hb o e => ?_) iv3 fun y mv2 iv4 => ?_⟩
   · rw [sb.2 b (fun h : b = d => hdf (h ▸ hb))]; exact e
   · refine hR y (Moved.trans W.gtrans ((mv.mono up).then_heap ht fun b o hb e => ?_) mv2) iv4
     rw [sb.2 b (fun h : b = d => hb (h ▸ .head _))]; exact e
end
section
variable {P : Program} {w : World} {A : Around} {E : Value → Shared → Prop} {s : Shared}
set_option maxHeartbeats 3200000 in
theorem set_list {l : Addr} {items : Array Value} (Iv : Nat → Heap → Prop) {Q : Value → Shared → Prop} (hh : A.handled = none) (hl : s.heap.IsList l items) (h0 : Iv 0 (s.heap.push (newSet w)))
   (hkeep : ∀ i h g, Iv i h → (∀ b o, b ≤ s.heap.objs.size → h.get? b = some o → g.get? b = some o) → Iv i g)
   (hstep : ∀ (B : Around) (X : Value → Shared → Prop) i v (u : Shared) (R : Bool → Shared → Prop), B.units = A.units + 3 → items[i]? = some v → Iv i u.heap → (∀ b g tk, u.toks ≤ tk → Heap.SameBut s.heap.objs.size u.heap g → Iv (i + 1) g → R b { u with heap := g, toks := tk }) → wpAny (model P w) B (setAdd s.heap.objs.size v) R X u)
   (h : ∀ (g : Heap) (tk : Nat), Iv items.size g → (∀ b o, s.heap.get? b = some o → g.get? b = some o) → Q (.ref s.heap.objs.size) { s with heap := g, toks := tk }) :
   wpAny (model P w) A (call (.type "set") [.ref l]) Q E s := by
 obtain ⟨c, tl, hmro⟩ := PySem.F.called_set.mro; have hmade := PySem.F.called_set.made; have hsub := PySem.F.called_set.sub
 refine wpAny_call (codeAny_of_tree ?_); show wpAny _ _ (callAny (.type "set") _) _ _ _
 refine wpAny_pure ⟨Code.quiet_builtin _ (by decide +kernel), codeAny_builtin PySem.F.entry_type_call ?_⟩; rw [Around.under_plain (weight_type_call_type "set" [.ref l] []) rfl]
 have h1 := PySem.F.called_set.notType; have h2 := PySem.F.called_set.canCreate; have hct := PySem.F.typeCall_set_1 (.ref l)
 repeat (any_goals (first | assumption | wp_step))
 refine codeAny_mono (code_set_led1 (.ref l) (E := E) (Q₁ := fun ob u => ob = .ref s.heap.objs.size ∧ u = { s with heap := s.heap.push (newSet w) }) ⟨rfl, rfl⟩) fun r u hr => ?_
 cases r with
 | error e => exact hr
 | ok fl =>
   cases fl with
   | ret ob =>
     obtain ⟨rfl, rfl⟩ := hr
     have gS : (s.heap.push (newSet w)).get? s.heap.objs.size = some (newSet w) := Heap.get?_push_size _ rfl
     have hT : Shared.TypeIs { s with heap := s.heap.push (newSet w) } (.ref s.heap.objs.size) "set" := ⟨_, gS, rfl⟩
     have hli := PySem.F.called_set.init.lookup; have hbi := PySem.F.called_set.init.bind (.ref s.heap.objs.size)
     repeat (any_goals (first | assumption | wp_step))
     refine codeAny_mono (codeAny_call_builtin (R := wants (fun r u2 => r = .none ∧ ∃ g tk, u2 = { s with heap := g, toks := tk } ∧ Iv items.size g ∧ (∀ b o, s.heap.get? b = some o → g.get? b = some o)) E) PySem.F.called_set.init.plain PySem.F.entry_set_init (check_set_init_1 hT ?_)) fun r2 u2 hr2 => ?_
     · obtain ⟨⟨oc, od, oa, os⟩, hol, hcl, nl, hdl⟩ := hl
       simp only at hcl hdl; subst hcl; subst hdl
       have hol2 : (s.heap.push (newSet w)).get? l = some { cls := .type "list", dict := od, data := .seq items nl, slots := os } := Heap.get?_push_of_some _ hol
       have hsls := PySem.F.sub_list_set; have hslf := PySem.F.sub_list_frozenset; have hne : (Value.type "list" == Value.type "dict") = false := by decide
       have hl1 : (s.heap.push (newSet w)).IsList l items := ⟨_, hol2, rfl, nl, rfl⟩
       unfold Builtin.«set.__init__» noKeywords Builtin.Frozenset.updateFrom
       generalize hPI : pyIter = PI
       wp_walk
       subst hPI
       refine wpAny_pyIter_list hl1 ?_; refine wpAny_bind (wpAny_runValue ?_)
       have ltS : l < s.heap.objs.size := Heap.lt_size hol
       have sz1 : (s.heap.push (newSet w)).objs.size = s.heap.objs.size + 1 := Heap.size_push ..
       have neI : l ≠ (s.heap.push (newSet w)).objs.size := by rw [sz1]; exact Nat.ne_of_lt (Nat.lt_succ_of_lt ltS)
       have nf : s.heap.objs.size ∉ [(s.heap.push (newSet w)).objs.size, l] := by
         rw [sz1]; simp only [List.mem_cons, List.not_mem_nil, or_false, not_or]; exact ⟨Nat.ne_of_lt (Nat.lt_succ_self _), Nat.ne_of_gt ltS⟩
       refine grow_loop ((Walks.list (A := A.in1.in1.in1) (by simp [hh]) _ l neI items).toS) s.heap.objs.size nf Iv (fun i h g iv k => hkeep i h g iv fun b o hb e => k b o (fun m => absurd ((List.mem_singleton.mp m).trans sz1) (Nat.ne_of_lt (Nat.lt_succ_of_le hb))) e)
         (fun X i v u R _ pv iv q => hstep _ X i v u R rfl pv iv q) (items.size - 0) 0 _ (by omega) (Nat.zero_le _) ?st ?iv0 ?fin
       case st => exact ⟨⟨_, Heap.get?_push_size _ rfl, rfl, rfl⟩, hl1.push _⟩
       case iv0 => exact hkeep _ _ _ h0 fun b o _ e => Heap.get?_push_of_some _ e
       intro z mv iv
       obtain ⟨zh, zg, zd, zt, zo⟩ := z
       have eg : zg = s.gens := mv.gens
       have ed : zd = s.drawn := mv.drawn
       have eo : zo = s.os := mv.os
       subst eg ed eo
       show wpAny _ _ _ _ _ _
       refine wpAny_pure ?_; show wpAny _ _ (ret Value.none) _ _ _
       refine wpAny_pure ⟨rfl, zh, zt, rfl, iv, fun b o e => ?_⟩
       have lb := Heap.lt_size e
       refine mv.heap b o (by rw [sz1]; simp only [List.mem_cons, List.not_mem_nil, or_false, not_or]; exact ⟨Nat.ne_of_lt lb, Nat.ne_of_lt (Nat.lt_succ_of_lt lb)⟩) (Heap.get?_push_of_some _ (Heap.get?_push_of_some _ e))
     · cases r2 with
       | error e => exact hr2
       | ok fl2 =>
         cases fl2 with
         | ret r =>
           obtain ⟨rfl, g, tk, rfl, iv, kp⟩ := hr2
           repeat (any_goals (first | assumption | wp_step))
           exact h _ _ iv kp
         | _ => exact hr2.elim
   | _ => exact hr.elim
end
end Zt
namespace Zt
open PySem PySem.Spec PyProof.Rows L2
def GoodT (w : World) (e : Int × Value) : Prop := ∃ k tk, e.2 = Value.str k tk ∧ e.1 = hashStr w k
def keyT (e : Int × Value) : Str := match e.2 with
 | .str k _ => k
 | _ => Str.empty
structure TxE (w : World) (es : Array (Int × Value)) (t : SetTable) (ks : List Str) : Prop where
 good : ∀ e ∈ es.toList, GoodT w e
 pm : (es.toList.map keyT).Perm ks
 nd : ks.Nodup
 few : ks.length < 64
 fits : t.fits es.size = true
 ris : Ris t.place.toList
 led : w.params.followText "set-order" = true ∨ t.led = true
def TxR (w : World) (h : Heap) (a : Addr) (ks : List Str) : Prop := ∃ o es ep t, h.get? a = some o ∧ o.ExactSet ∧ o.data = .set es ep t ∧ TxE w es t ks
section
variable {P : Program} {w : World} {h g : Heap} {a : Addr} {ks : List Str} {es : Array (Int × Value)} {t : SetTable}
theorem TxR.at (R : TxR w h a ks) (k : ∀ o, h.get? a = some o → g.get? a = some o) : TxR w g a ks := by
 obtain ⟨o, es, ep, t, ho, r⟩ := R
 exact ⟨o, es, ep, t, k o ho, r⟩
theorem TxE.size (R : TxE w es t ks) : es.size = ks.length := by
 have := R.pm.length_eq
 rwa [List.length_map, Array.length_toList] at this
theorem TxE.bound (R : TxE w es t ks) : es.size < scanBound := by
 have h1 := R.size
 have h2 := R.few
 unfold scanBound
 omega
theorem txt_elems {l : List (Int × Value)} (gd : ∀ e ∈ l, GoodT w e) : ElemsOf (PySem.strKind P w) l := fun e he => by
 obtain ⟨k, tk, h1, h2⟩ := gd e he
 refine ⟨⟨k, ?_, h2⟩, ?_⟩
 · rw [h1]; exact strKind_is P w k tk
 · rw [h1]; rfl
theorem txt_is {e : Int × Value} (gd : GoodT w e) (k : Str) : (PySem.strKind P w).is k e.2 = true ↔ keyT e = k := by
 obtain ⟨k0, tk, h1, _⟩ := gd
 have e0 : keyT e = k0 := by unfold keyT; rw [h1]
 rw [h1, e0]
 constructor
 · intro q
   exact (PySem.strKind P w).inj _ _ _ (strKind_is P w k0 tk) q
 · rintro rfl
   exact strKind_is P w k0 tk
theorem txt_fresh (h : Heap) (w : World) : TxR w (h.push (newSet w)) h.objs.size [] :=
 ⟨_, #[], 0, _, Heap.get?_push_size _ rfl, ⟨rfl, rfl, rfl⟩, rfl, ⟨fun e he => by simp at he, by simp, .nil, by decide, by rfl, .nil, by
   show _ ∨ (!w.params.followText "set-order") = true
   cases w.params.followText "set-order" <;> simp⟩⟩
end
section
variable {P : Program} {w : World} {A : Around} {E : Value → Shared → Prop} {s : Shared} {a : Addr} {ks : List Str}
theorem tx_tail {gv : Bool → Sem Unit} (hg : ∀ (b : Bool) (u : Shared) (Q2 : Unit → Shared → Prop), Q2 () u → wpAny (model P w) A (gv b) Q2 E u) {o : Obj} {es : Array (Int × Value)} {ep : Nat} {t : SetTable} (ho : s.heap.get? a = some o) (hex : o.ExactSet) (hd : o.data = .set es ep t)
   {es1 : Array (Int × Value)} {t2 : SetTable} (T : TxE w es1 t2 ks) {wd : Bool} {R : Option Bool → Shared → Prop} (hR : ∀ g, Heap.SameBut a s.heap g → TxR w g a ks → R (some true) { s with heap := g }) :
   wpAny (model P w) A (do
       storeSet a es1 t2
       if (!wd && t2.tooFull) = true then do
           gv (relayAll t2 es1 (SetTable.grown es1.size)).2.2
           storeSet a (relayAll t2 es1 (SetTable.grown es1.size)).1 (relayAll t2 es1 (SetTable.grown es1.size)).2.1
           pure (some true)
         else pure (some true)) R E s := by
 refine wpAny_bind (wpAny_storeSet_of ho hd ?_ (fits_of_scanBound T.bound))
 have o1 := store_at (es' := es1) (t' := t2) ho hd
 have sb := Heap.SameBut.update s.heap a (Obj.putSet es1 t2)
 by_cases c : (!wd && t2.tooFull) = true
 · rw [if_pos c]
   have p1 := relayAll_perm t2 es1 (SetTable.grown es1.size)
   have p2 := relayAll_fits t2 es1 (SetTable.grown es1.size)
   have p3 := relayAll_ris t2 es1 (SetTable.grown es1.size)
   have p4 := relayAll_led t2 es1 (SetTable.grown es1.size)
   generalize relayAll t2 es1 (SetTable.grown es1.size) = Y at p1 p2 p3 p4 ⊢
   obtain ⟨es2, t3, gone⟩ := Y
   dsimp only at p1 p2 p3 p4 ⊢
   have T2 : TxE w es2 t3 ks := ⟨fun e he => T.good e (p1.mem_iff.mp he), (p1.map keyT).trans T.pm, T.nd, T.few, p2, p3, T.led.imp id fun z => p4.trans z⟩
   refine wpAny_bind (hg _ _ _ (wpAny_bind (wpAny_storeSet_of o1 rfl ?_ (fits_of_scanBound T2.bound))))
   exact wpAny_pure (hR _ (sb.trans (Heap.SameBut.update _ a _)) ⟨_, es2, _, t3, store_at (es' := es2) (t' := t3) o1 rfl, hex, rfl, T2⟩)
 · rw [if_neg c]
   exact wpAny_pure (hR _ sb ⟨_, es1, _, t2, o1, hex, rfl, T⟩)
theorem tx_add {k : Str} {tk : Tok} {Q : Bool → Shared → Prop} (R : TxR w s.heap a ks) (room : ks.length + 1 < 64) (hQ : ∀ b g ks2, Heap.SameBut a s.heap g → TxR w g a ks2 → (∀ x, x ∈ ks2 ↔ x ∈ ks ∨ x = k) → ks2.length ≤ ks.length + 1 → Q b { s with heap := g }) :
   wpAny (model P w) A (setAddHashed a (.str k tk) (hashStr w k)) Q E s := by
 obtain ⟨o, es, ep, t, ho, hex, hd, T⟩ := id R
 have key : (PySem.strKind P w).is k (.str k tk) = true := strKind_is P w k tk
 have sc : (Value.str k tk).scannable = true := rfl
 have el : ElemsOf (PySem.strKind P w) es.toList := txt_elems T.good
 unfold setAddHashed setAddHashedIn
 refine wpAny_holding (wpAny_bind (wpAny_setState_of ho hd T.fits ?_)); dsimp only
 rw [byScan_of sc T.bound el]; simp only [↓reduceIte]
 unfold setAddByScan
 refine wpAny_bind (wpAny_bind (wpAny_rule (wpAny_bind (wpAny_setScan_of key ho hd T.fits el ?_))))
 cases fi : List.findIdx? (fun e => (PySem.strKind P w).is k e.2) es.toList with
 | some j =>
   dsimp only
   obtain ⟨hj, pj, _⟩ := List.findIdx?_eq_some_iff_getElem.mp fi
   have hk : k ∈ ks := T.pm.mem_iff.mp (List.mem_map.mpr ⟨es.toList[j], List.getElem_mem hj, (txt_is (T.good _ (List.getElem_mem hj)) k).mp pj⟩)
   exact wpAny_pure (wpAny_pure (hQ _ s.heap ks (Heap.SameBut.refl a s.heap) R (fun x => ⟨.inl, fun h => h.elim id fun e => e ▸ hk⟩) (Nat.le_succ _)))
 | none =>
   dsimp only
   have nk : k ∉ ks := fun z => by
     obtain ⟨e, he, q⟩ := List.mem_map.mp (T.pm.mem_iff.mpr z)
     have c := List.findIdx?_eq_none_iff.mp fi e he
     rw [(txt_is (P := P) (T.good e he) k).mpr q] at c
     cases c
   have gw : ∀ (b : Bool) {u : Shared} {Q2 : Unit → Shared → Prop}, Q2 () u → wpAny (model P w) A (match b with | true => rule "set.scan.the-table-gave-way" | false => pure ()) Q2 E u := fun b u Q2 q => by
     cases b <;> first | exact wpAny_pure q | exact wpAny_rule q
   have p1 := layNew_perm t es (hashStr w k) (.str k tk)
   have p2 := layNew_fits t es (hashStr w k) (.str k tk)
   have p3 := layNew_ris t es (hashStr w k) (.str k tk) T.ris
   have p4 := layNew_led t es (hashStr w k) (.str k tk)
   generalize layNew t es (hashStr w k) (.str k tk) = Y at p1 p2 p3 p4 ⊢
   obtain ⟨es1, t1, wd, gone⟩ := Y
   dsimp only at p1 p2 p3 p4 ⊢
   rw [Array.toList_push] at p1
   have pc : es1.toList.Perm ((hashStr w k, Value.str k tk) :: es.toList) := p1.trans (List.perm_append_singleton _ _)
   have T1 : ∀ t2 : SetTable, t2.fits es1.size = true → t2.place = t1.place → t2.led = t1.led → TxE w es1 t2 (k :: ks) := fun t2 f1 f2 f3 => by
     refine ⟨fun e he => ?_, (pc.map keyT).trans (T.pm.cons k), List.nodup_cons.mpr ⟨nk, T.nd⟩, room, f1, by rw [f2]; exact p3, T.led.imp id fun z => f3.trans (p4.trans z)⟩
     rcases List.mem_cons.mp (pc.mem_iff.mp he) with z | z
     · rw [z]; exact ⟨k, tk, rfl, rfl⟩
     · exact T.good e z
   have fin : ∀ g, Heap.SameBut a s.heap g → TxR w g a (k :: ks) → Q true { s with heap := g } := fun g sb r => hQ true g (k :: ks) sb r (fun x => by rw [List.mem_cons]; exact Or.comm) (Nat.le_refl _)
   refine wpAny_bind (gw _ ?_)
   split
   · refine wpAny_bind ?_; rw [hashByValue_scannable 8 sc]; refine wpAny_pure ?_
     refine tx_tail (ks := k :: ks) ?_ ho hex hd (T1 _ ?_ ?_ ?_) ?_
     · intro b u Q2 q; cases b <;> first | exact wpAny_pure q | exact wpAny_rule q
     · first | (split <;> first | exact p2 | exact SetTable.fits_plain_off p2) | exact p2
     · first | (split <;> rfl) | rfl
     · first | (split <;> rfl) | rfl
     · intro g sb r; dsimp only; exact wpAny_pure (fin g sb r)
   · refine wpAny_bind (wpAny_pure ?_); simp only [↓reduceIte]
     refine tx_tail (ks := k :: ks) ?_ ho hex hd (T1 _ p2 rfl rfl) ?_
     · intro b u Q2 q; cases b <;> first | exact wpAny_pure q | exact wpAny_rule q
     · intro g sb r; dsimp only; exact wpAny_pure (fin g sb r)
theorem set_texts {l : Addr} {items : Array Value} {xs : List Str} {Q : Value → Shared → Prop} (hh : A.handled = none) (hl : s.heap.IsList l items) (hi : StrsAre items.toList xs) (few : xs.length < 64)
   (h : ∀ (g : Heap) (tk : Nat) ks, TxR w g s.heap.objs.size ks → (∀ x, x ∈ ks ↔ x ∈ xs) → (∀ b o, s.heap.get? b = some o → g.get? b = some o) → Q (.ref s.heap.objs.size) { s with heap := g, toks := tk }) :
   wpAny (model P w) A (call (.type "set") [.ref l]) Q E s := by
 have sz : items.size = xs.length := by rw [← Array.length_toList]; exact hi.length
 refine set_list (fun i g => ∃ ks, TxR w g s.heap.objs.size ks ∧ (∀ x, x ∈ ks ↔ x ∈ xs.take i) ∧ ks.length ≤ i) hh hl ⟨[], txt_fresh _ w, by simp, Nat.le_refl _⟩ (fun i g g2 ⟨ks, r, q⟩ k => ⟨ks, r.at fun o e => k _ o (Nat.le_refl _) e, q⟩) (fun B X i v u R _ hv ⟨ks, r, q1, q2⟩ hR => ?_) fun g tk ⟨ks, r, q1, _⟩ k => h g tk ks r (fun x => by rw [q1, sz, List.take_length]) k
 have hv2 : items.toList[i]? = some v := by rw [Array.getElem?_toList]; exact hv
 have li : i < items.toList.length := (List.getElem?_eq_some_iff.mp hv2).1
 rw [Array.length_toList] at li
 obtain ⟨t, rfl⟩ := SS.strs_at hi i v hv2
 have hx : xs[i]? = some (xs.getD i Str.empty) := by rw [List.getD_eq_getElem?_getD, List.getElem?_eq_getElem (by omega)]; rfl
 unfold setAdd
 refine wpAny_holding (wpAny_bind ((PySem.strKind P w).pyHash (k := xs.getD i Str.empty) (strKind_is _ _ _ _) ?_))
 refine tx_add (s := { u with toks := u.toks + 1 }) r (by omega) fun b g ks2 sb r2 m1 m2 => hR b g _ (Nat.le_succ _) sb ⟨ks2, r2, fun x => ?_, by omega⟩
 rw [m1, q1, List.take_succ, hx]
 simp
theorem sorted_texts {Q : Value → Shared → Prop} (R : TxR w s.heap a ks) (hh : A.handled = none)
   (hQ : ∀ z p (out : Array Value) (c : Nat) (ys : List Str), (∀ b o, s.heap.get? b = some o → z.heap.get? b = some o) → z.gens = s.gens → z.os = s.os → s.heap.objs.size ≤ p → z.heap.get? p = some (seqObj "list" out c) → StrsAre out.toList ys → ys.Perm ks → sortedS ys = true → Q (.ref p) z) :
   wpAny (model P w) A (call (.builtin "sorted") [.ref a]) Q E s := by
 obtain ⟨o, es, ep, t, ho, hex, hd, T⟩ := R
 refine Calls.call_function_entry kind_sorted plain_sorted entry_sorted (args_sorted1 _) ?_
 unfold Builtin.«sorted»
 refine wpAny_bind (m := checkCount "sorted" 1 1 _) (wpAny_pure (wpAny_bind (collect_set (A := A.in1) hh ⟨o, ho, hex.1, hd⟩ T.fits T.bound T.ris T.led fun s1 vs k1 hz g1 o1 pm => ?_)))
 have txs : ∀ l : List Value, (∀ v ∈ l, ∃ e ∈ es.toList, v = e.2) → ∃ ys, StrsAre l ys ∧ ys = l.map fun v => keyT (0, v) := by
   intro l
   induction l with
   | nil => exact fun _ => ⟨[], .nil, rfl⟩
   | cons v l ih =>
     intro hv
     obtain ⟨e, he, rfl⟩ := hv v (.head _)
     obtain ⟨k, tk, h1, _⟩ := T.good e he
     obtain ⟨ys, h2, h3⟩ := ih fun u hu => hv u (.tail _ hu)
     refine ⟨k :: ys, by rw [h1]; exact .cons k tk h2, ?_⟩
     rw [List.map_cons, ← h3]
     unfold keyT; rw [h1]
 have vl : vs.length = ks.length := by rw [pm.length_eq, List.length_map, Array.length_toList]; exact T.size
 have few := T.few
 obtain ⟨ns, hI, en⟩ := txs vs fun v hv => by
   obtain ⟨e, he, q⟩ := List.mem_map.mp (pm.mem_iff.mp hv)
   exact ⟨e, he, q.symm⟩
 have pk : ns.Perm ks := by
   rw [en]
   refine ((pm.map fun v => keyT (0, v)).trans ?_).trans T.pm
   rw [List.map_map]
   exact .refl _
 refine wpAny_bind (wpAny_newList ?_ (by rw [vl, sizeLine_eq]; omega))
 have oL : (s1.heap.push (seqObj "list" vs.toArray 0)).get? s1.heap.objs.size = some (seqObj "list" vs.toArray 0) := Heap.get?_push_size _ rfl
 refine wpAny_bind (wpAny_holding (wpAny_call_entry slot_list_sort ⟨_, oL, rfl⟩ entry_list_sort (list_sort_treeK strKind_oneLt oL hI.keysOf (fun v1 v2 rest e => keyKind_strs (by rw [← e]; exact hI)) (by rw [vl]; exact few) fun st hp hs => ⟨_, rfl, ?_⟩) (args_list_sort _)))
 obtain ⟨ys, a1, a2, a3⟩ := sorted_out_str hI hp hs
 obtain ⟨c, hc⟩ := sortedHeap_at (vs := vs) (out := (arrOf st).map (·.2)) oL
 refine wpAny_pure ⟨_, rfl, hQ _ s1.heap.objs.size _ c ys (fun b u e => ?_) g1 o1 hz hc a1 (a2.trans pk) a3⟩
 have q := k1 b u e
 have lt := Heap.lt_size q
 show (sortedHeap (s1.heap.push (seqObj "list" vs.toArray 0)) s1.heap.objs.size vs _).get? b = some u
 rw [sortedHeap_old (Nat.ne_of_lt lt) (by rw [size_push']; exact Nat.lt_succ_of_lt lt)]
 exact Heap.get?_push_of_some _ q
end
end Zt
namespace Zt
open PySem PySem.Spec PyProof.Rows L2
def TxO (w : World) (a : Addr) (ks : List Str) : HO := .ext fun h => TxR w h a ks
theorem txO_new {w : World} {P : Program} {H : Hp} {h : Heap} {a : Addr} {ks : List Str} (R : TxR w h a ks) : ObjOk P w H h a (TxO w a ks) := by
 have ⟨o, _, _, _, ho, _⟩ := R
 exact ⟨R, ⟨o, ho⟩, fun h1 h2 p k => TxR.at p k⟩
theorem TxR.facts {w : World} {h : Heap} {a : Addr} {ks : List Str} (R : TxR w h a ks) : ks.Nodup ∧ ks.length < 64 := by
 obtain ⟨_, _, _, _, _, _, _, T⟩ := R
 exact ⟨T.nd, T.few⟩
section
variable {X : Cx}
def rSetX (X : Cx) : List V → Hp → VK → Prop := fun xs H Q => ∃ (l : Addr) (ss : List Str), xs = [V.ref l] ∧ SqL X.K H l (ss.map V.str) ∧ ss.length < 64 ∧ ∀ a ks, H a = none → (∀ x, x ∈ ks ↔ x ∈ ss) → Q (.ref a) (upd H a (TxO X.w a ks))
theorem cr_setX (hc : X.calm = true) : CallR X (.type "set") (rSetX X) := by
 intro pins s σ H xs us Q I r h
 obtain ⟨l, ss, rfl, hl, few, q⟩ := h
 rw [Vals.ref1 r]
 obtain ⟨its, rv, pl, hz⟩ := I.list hl
 refine set_texts (P := X.prog) (w := X.w) (xs := ss) (I.ok.hd hc) pl.isList (by simpa using strsAre_of rv) few fun g tk ks R m k => ?_
 exact ⟨.ref s.heap.objs.size, upd H s.heap.objs.size (TxO X.w s.heap.objs.size ks), I.laid (t' := tk) k (Nat.le_refl _) (txO_new R), rfl, q _ ks (I.hok.fresh (Nat.le_refl _)) m⟩
def rSortX (X : Cx) : List V → Hp → VK → Prop := fun vs H Q => ∃ (a : Addr) (ks : List Str), vs = [V.ref a] ∧ H a = some (TxO X.w a ks) ∧ ∀ (ys : List Str) (p : Addr), ks.Nodup → ys.Perm ks → sortedS ys = true → H p = none → Q (.ref p) (upd H p (.lst (ys.map V.str)))
theorem cr_sortX (hc : X.calm = true) : CallR X (.builtin "sorted") (rSortX X) := by
 intro pins s σ H vs us Q I r h
 obtain ⟨a, ks, rfl, ha, q⟩ := h
 have R : TxR X.w s.heap a ks := (I.hok a _ ha).1
 obtain ⟨nd, few⟩ := R.facts
 rw [Vals.ref1 r]
 refine sorted_texts R (I.ok.hd hc) fun z p out c ys k g o hp hg hs pm so => ?_
 have room : (ys.map V.str).length ≤ sizeLine := by rw [List.length_map, pm.length_eq, sizeLine_eq]; omega
 have hn : H p = none := I.hok.fresh hp
 have J : Inv X pins σ (upd H p (.lst (ys.map V.str))) { s with heap := z.heap, gens := z.gens, drawn := z.drawn, toks := z.toks } :=
   I.call (ch := []) (Un.laid k hp hn) (I.hok.laid k hp ⟨room, out.toList, c, vals_of_strs hs, hg⟩) (by rw [g]; exact I.bare) (fun _ z => nomatch z)
 have e : z = { s with heap := z.heap, gens := z.gens, drawn := z.drawn, toks := z.toks } := by
   cases z; cases s; cases o; rfl
 rw [e]
 exact ⟨.ref p, _, J, rfl, q ys p nd pm so hn⟩
theorem CallR.or {v : Value} {r1 r2 : List V → Hp → VK → Prop} (h1 : CallR X v r1) (h2 : CallR X v r2) : CallR X v (fun xs H Q => r1 xs H Q ∨ r2 xs H Q) := by
 intro pins s σ H xs us Q I r h
 rcases h with h | h
 · exact h1 pins s σ H xs us Q I r h
 · exact h2 pins s σ H xs us Q I r h
end
end Zt
namespace Zt
open PySem PySem.Spec PyProof.Rows L2
section
variable {P : Program} {w : World} {K : Type} [DecidableEq K] {knd : KeyKind P w K} {A : Around} {E : Value → Shared → Prop} {s : Shared}
structure Quiet (knd : KeyKind P w K) : Prop where
 cls : ∀ n k v, knd.is k v = true → ofAClassStatement n v = pure false
 hsh : ∀ n k v, knd.is k v = true → ∃ b, hashByValue n v = pure b
theorem quiet_str : Quiet (PySem.strKind P w) := ⟨fun n k v h => by
   obtain ⟨t, rfl⟩ := Value.isStrOf_shape h
   cases n <;> rfl, fun n k v h => by
   obtain ⟨t, rfl⟩ := Value.isStrOf_shape h
   exact ⟨false, by cases n <;> rfl⟩⟩
theorem items_is {ks : List K} {vs : List Value} (h : ItemsAre knd ks vs) : ∀ v ∈ vs, ∃ k, knd.is k v = true := by
 induction h with
 | nil => exact fun v hv => nomatch hv
 | cons h1 _ ih => exact fun v hv => (List.mem_cons.mp hv).elim (fun e => ⟨_, e ▸ h1⟩) (ih v)
theorem no_class (q : Quiet knd) {ks : List K} {b : Addr} {Q : Bool → Shared → Prop} (hk : IsTupleKey knd s.heap ks b) (h : Q false s) : wpAny (model P w) A (ofAClassStatement 8 (.ref b)) Q E s := by
 have ty := hk.typeIs
 obtain ⟨o, its, n, ho, _, hd, hi⟩ := hk
 unfold ofAClassStatement
 refine wpAny_bind (wpAny_typeOf ty ?_); dsimp only
 have e : (("tuple" : String) == "tuple") = true := by decide
 simp only [e, if_true, Bool.not_true, Bool.false_eq_true, if_false]
 try refine wpAny_bind (wpAny_pure ?_)
 try simp only [Bool.not_true, Bool.false_eq_true, if_false]
 show wpAny _ _ (seqItems? (.ref b) >>= _) _ _ s
 refine wpAny_bind (wpAny_seqItems ho hd ?_); dsimp only
 refine wpAny_bind ?_
 show wpAny _ _ (forIn its _ _) _ _ s
 rw [← Array.forIn_toList]
 refine wpAny_forIn_list _ (fun rest r u => r.1 = none ∧ u = s ∧ ∀ v ∈ rest, ∃ k, knd.is k v = true) _ ?_ ?_ _ _ ⟨rfl, rfl, items_is hi⟩
 · rintro v rest r u ⟨hr, rfl, all⟩
   obtain ⟨k, hv⟩ := all v (.head _)
   rw [q.cls _ k v hv]
   refine wpAny_bind (wpAny_pure ?_); simp only [Bool.false_eq_true, if_false]
   exact wpAny_pure ⟨rfl, rfl, fun y hy => all y (.tail _ hy)⟩
 · rintro ⟨r1, r2⟩ u ⟨hr, rfl, _⟩
   simp only at hr; subst hr
   exact wpAny_pure h
theorem some_hash (q : Quiet knd) {ks : List K} {b : Addr} {Q : Bool → Shared → Prop} (hk : IsTupleKey knd s.heap ks b) (h : ∀ c, Q c s) : wpAny (model P w) A (hashByValue 8 (.ref b)) Q E s := by
 have ty := hk.typeIs
 obtain ⟨o, its, n, ho, _, hd, hi⟩ := hk
 unfold hashByValue
 refine wpAny_bind (wpAny_specialOf ty F.slot_tuple_hash.lookup ?_)
 show wpAny _ _ (seqItems? (.ref b) >>= _) _ _ s
 refine wpAny_bind (wpAny_seqItems ho hd (wpAny_bind ?_))
 show wpAny _ _ (forIn its _ _) _ _ s
 rw [← Array.forIn_toList]
 refine wpAny_forIn_list _ (fun rest r u => u = s ∧ ∀ v ∈ rest, ∃ k, knd.is k v = true) _ ?_ ?_ _ _ ⟨rfl, items_is hi⟩
 · rintro v rest r u ⟨rfl, all⟩
   obtain ⟨k, hv⟩ := all v (.head _)
   obtain ⟨c, hc⟩ := q.hsh 7 k v hv
   rw [hc]
   refine wpAny_bind (wpAny_pure ?_)
   cases c
   · simp only [Bool.not_false, if_true]
     exact wpAny_pure (wpAny_pure (h _))
   · simp only [Bool.not_true, Bool.false_eq_true, if_false]
     exact wpAny_pure ⟨rfl, fun y hy => all y (.tail _ hy)⟩
 · rintro ⟨r1, r2⟩ u ⟨rfl, _⟩
   cases r1 with
   | none => exact wpAny_pure (h _)
   | some c => exact wpAny_pure (h _)
theorem unseen (q : Quiet knd) {ks : List K} {b : Addr} {Q : Bool → Shared → Prop} (hk : IsTupleKey knd s.heap ks b) {ys : List Value} (hy : ∀ y ∈ ys, ∃ k2 c, y = Value.ref c ∧ IsTupleKey knd s.heap k2 c) (h : Q false s) : wpAny (model P w) A (searchCouldBeSeen (.ref b) ys) Q E s := by
 unfold searchCouldBeSeen
 refine wpAny_bind ?_
 refine wpAny_forIn_list _ (fun rest r u => r.1 = none ∧ u = s ∧ ∀ y ∈ rest, ∃ k2 c, y = Value.ref c ∧ IsTupleKey knd s.heap k2 c) _ ?_ ?_ _ _ ⟨rfl, rfl, hy⟩
 · rintro v rest r u ⟨hr, rfl, all⟩
   obtain ⟨k2, c, rfl, hc⟩ := all v (.head _)
   have more : ∀ y ∈ rest, ∃ k2 c, y = Value.ref c ∧ IsTupleKey knd u.heap k2 c := fun y hy => all y (.tail _ hy)
   dsimp only
   by_cases hv : (b == c || (carriedByValue (.ref b) && carriedByValue (.ref c))) = true
   · exact wp_if_pos hv (wpAny_pure ⟨rfl, rfl, more⟩)
   · refine wp_if_neg hv (wpAny_bind (wpAny_eqIsQuiet_tuple hk ?_)); simp only [Bool.not_true, Bool.false_eq_true, if_false]
     refine wpAny_bind (wpAny_eqIsQuiet_tuple hc ?_); simp only [Bool.not_true, Bool.false_eq_true, if_false]
     refine wpAny_bind (no_class q hk ?_); simp only [Bool.false_eq_true, if_false]
     refine wpAny_bind (no_class q hc ?_); simp only [Bool.false_eq_true, if_false]
     exact wpAny_pure ⟨rfl, rfl, more⟩
 · rintro ⟨r1, r2⟩ u ⟨hr, rfl, _⟩
   simp only at hr; subst hr
   exact wpAny_pure h
end
end Zt
namespace Zt
open PySem PySem.Spec PyProof.Rows L2
section
variable {P : Program} {w : World} {K : Type} [DecidableEq K] {knd : KeyKind P w K} {A : Around} {E : Value → Shared → Prop} {s : Shared}
def rwsK (knd : KeyKind P w K) (L : List (Addr × List K)) : List (Int × Value) := L.map fun p => (tupleKeyHash knd p.2, Value.ref p.1)
structure SetK (knd : KeyKind P w K) (h : Heap) (a : Addr) (L : List (Addr × List K)) (es : Array (Int × Value)) (ep : Nat) (t : SetTable) : Prop where
 ob : ∃ o, h.get? a = some o ∧ o.ExactSet ∧ o.data = .set es ep t
 rows : es.toList = rwsK knd L
 tab : TabOk t (L.map fun p => tupleKeyHash knd p.2)
 nd : (L.map (·.2)).Nodup
 tup : ∀ p ∈ L, IsTupleKey knd h p.2 p.1
 led : w.params.followText "set-order" = true ∨ t.led = true
 room : L.length * 5 < t.mask * 3
 few : L.length < 64
variable {a : Addr} {L : List (Addr × List K)} {es : Array (Int × Value)} {ep : Nat} {t : SetTable}
theorem rws_len {es : Array (Int × Value)} (h : es.toList = rwsK knd L) : es.size = L.length := by
 have := congrArg List.length h
 rwa [rwsK, Array.length_toList, List.length_map] at this
theorem SetK.size (R : SetK knd s.heap a L es ep t) : es.size = L.length := rws_len R.rows
theorem tab_size {hs : List Int} (T : TabOk t hs) {n : Nat} (h : hs.length = n) : t.place.size = n := T.sz.trans h
theorem fit_of {n : Nat} (h1 : t.place.size = n) (h2 : t.dummies = #[]) (h3 : n ≤ t.mask) : t.fits n = true := by
 unfold SetTable.fits SetTable.fill
 rw [h2, Bool.and_eq_true, beq_iff_eq, decide_eq_true_eq]
 exact ⟨h1, by show t.place.size + 0 ≤ t.mask; omega⟩
theorem SetK.fits (R : SetK knd s.heap a L es ep t) : t.fits es.size = true := by
 have r := R.room
 rw [R.size]
 exact fit_of (tab_size R.tab (List.length_map ..)) R.tab.dm (by omega)
theorem SetK.entry (R : SetK knd s.heap a L es ep t) {i : Nat} {p : Addr × List K} (h : L[i]? = some p) : es[i]? = some (tupleKeyHash knd p.2, Value.ref p.1) := by
 rw [← Array.getElem?_toList, R.rows, rwsK, List.getElem?_map, h]; rfl
theorem SetK.whole (R : SetK knd s.heap a L es ep t) : ¬ t.gaveWay = true := by
 unfold SetTable.gaveWay
 rw [mask_odd R.tab.mok]; decide
theorem no_dummy (m : Nat) : ∀ (n : Nat) (p : SetTable.Probe), p.dummy = none → (nth m p n).dummy = none
 | 0, _, h => h
 | n + 1, p, h => no_dummy m n (adv m p) (by unfold adv; split <;> exact h)
theorem seek (q : Quiet knd) (R : SetK knd s.heap a L es ep t) {x : Addr} {k : List K} (hx : IsTupleKey knd s.heap k x) (hu : A.units < cLine) {h : Int} (eh : h = tupleKeyHash knd k) {N : Nat} (hN : N < 10 * SetTable.turns t.mask) (free : way t.mask h N ∉ t.place.toList) (full : ∀ c, c < N → way t.mask h c ∈ t.place.toList) {Q : SetFound → Shared → Prop}
   (hin : k ∈ L.map (·.2) → Q (.there none) s) (hout : k ∉ L.map (·.2) → Q (.free (way t.mask h N) false) s) :
   ∀ (f c : Nat) (st : Option SetTable.Probe), st.getD (t.probeStart h) = nth t.mask (runAt t.mask (SetTable.bits h % (t.mask + 1)) (SetTable.bits h)) c → c ≤ N → N - c < f → (∀ (i : Nat) p, L[i]? = some p → p.2 = k → ∃ d, c ≤ d ∧ d < N ∧ t.place.toList[i]? = some (way t.mask h d)) → wpAny (model P w) A (setSearchFrom a (.ref x) h true f st) Q E s
 | 0, _, _, _, _, hf, _ => absurd hf (Nat.not_lt_zero _)
 | f + 1, c, st, est, hc, hf, ahead => by
   obtain ⟨o, ho, hex, hd⟩ := R.ob
   rw [setSearchFrom_succ]
   refine wpAny_bind (wpAny_setState_of ho hd R.fits ?_); dsimp only
   refine wp_if_neg R.whole ?_
   try refine wpAny_bind (wpAny_pure ?_)
   obtain ⟨p0, ep0⟩ : ∃ p0, p0 = runAt t.mask (SetTable.bits h % (t.mask + 1)) (SetTable.bits h) := ⟨_, rfl⟩
   have wy : ∀ m, way t.mask h m = (nth t.mask p0 m).j := fun m => by rw [ep0] <;> rfl
   rw [← ep0] at est
   have go1 : ∀ m, nth t.mask (nth t.mask p0 c) m = nth t.mask p0 (c + m) := fun m => (nth_add t.mask c _ m).symm
   have wc : ∀ m, (nth t.mask (nth t.mask p0 c) m).j = way t.mask h (c + m) := fun m => by rw [go1, wy]
   have hashAt : ∀ (i : Nat) p, L[i]? = some p → (es[i]?.map (·.1)).getD 0 = tupleKeyHash knd p.2 := fun i p hp => by rw [R.entry hp]; rfl
   have spec := go_spec t R.tab.ris R.tab.dm (fun i => (es[i]?.map (·.1)).getD 0) h (10 * SetTable.turns t.mask) (N - c) (nth t.mask p0 c) (no_dummy _ c p0 (by rw [ep0] <;> rfl)) (by omega) (fun m hm => by rw [wc]; exact full _ (by omega)) (by rw [wc, Nat.add_sub_cancel' hc]; exact free)
   rcases spec with ⟨m, i, hm, hi, hh, hno, hpr⟩ | ⟨hno, hpr⟩
   · have pr : t.probe (fun i => (es[i]?.map (·.1)).getD 0) h (st.getD (t.probeStart h)) = some (.candidate (way t.mask h (c + m)) i (nth t.mask p0 (c + (m + 1)))) := by
       rw [est, ← wc, ← go1]; exact hpr
     rw [pr]; dsimp only
     rw [wc] at hi
     have il : i < L.length := by
       have h1 : i < t.place.toList.length := (List.getElem?_eq_some_iff.mp hi).1
       rwa [Array.length_toList, tab_size R.tab (List.length_map ..)] at h1
     obtain ⟨p, hp⟩ : ∃ p, L[i]? = some p := ⟨_, List.getElem?_eq_getElem il⟩
     have mem : p ∈ L := List.mem_of_getElem? hp
     have rest : wpAny (model P w) A (searchRest a (.ref x) h true f es t (way t.mask h (c + m)) i (nth t.mask p0 (c + (m + 1)))) Q E s := by
       unfold searchRest
       rw [R.entry hp]; dsimp only
       refine wpAny_bind (wpAny_holding (wpAny_eqBool_tuple hu (R.tup p mem) hx (wpAny_bind (wpAny_setState_of ho hd R.fits ?_)))); dsimp only
       by_cases e : p.2 = k
       · exact wp_if_pos (by simp [e]) (wpAny_pure (hin (List.mem_map.mpr ⟨p, mem, e⟩)))
       · refine wp_if_neg (by simp [e]) ?_
         try refine wpAny_bind (wpAny_pure ?_)
         rw [sameMem]; dsimp only
         have sl : t.slot (way t.mask h (c + m)) = .live i := slot_live R.tab.ris hi
         simp only [if_true, sl, R.entry hp]
         refine wpAny_bind (wpAny_isSame_ref_self (wpAny_bind (wpAny_pure ?_))); simp only [if_true]
         refine wp_if_neg (by simp [e]) (seek q R hx hu eh hN free full hin hout f (c + (m + 1)) _ (by rw [← ep0]; rfl) (by omega) (by omega) fun i2 p2 h2 e2 => ?_)
         obtain ⟨d, d1, d2, d3⟩ := ahead i2 p2 h2 e2
         refine ⟨d, Classical.byContradiction fun z => ?_, d2, d3⟩
         rcases Nat.lt_or_ge d (c + m) with y | y
         · exact hno (d - c) i2 (by omega) (by rw [wc, Nat.add_sub_cancel' d1]; exact d3) ((hashAt i2 p2 h2).trans (by rw [e2, eh]))
         · obtain rfl : d = c + m := by omega
           have s2 := slot_live R.tab.ris d3
           rw [sl] at s2
           injection s2 with s2
           rw [← s2, hp] at h2
           exact e ((congrArg Prod.snd (Option.some.inj h2)).trans e2)
     by_cases ld : t.led = true
     · refine wp_if_neg (by simp [ld]) ?_
       try refine wpAny_bind (wpAny_pure ?_)
       exact rest
     · refine wp_if_pos (by simp [ld]) (wpAny_bind (unseen q hx (fun y hy => ?_) ?_))
       · obtain ⟨e, he, ee⟩ := List.mem_map.mp hy
         have h1 : e ∈ es ∧ e.1 = h := by simpa using he
         have h2 : e ∈ es.toList := by simpa using h1.1
         rw [R.rows] at h2
         obtain ⟨p2, hp2, e2⟩ := List.mem_map.mp h2
         exact ⟨p2.2, p2.1, by rw [← ee, ← e2], R.tup p2 hp2⟩
       · refine wp_if_neg (by decide) ?_
         try refine wpAny_bind (wpAny_pure ?_)
         exact rest
   · have pr : t.probe (fun i => (es[i]?.map (·.1)).getD 0) h (st.getD (t.probeStart h)) = some (.empty (way t.mask h N) none) := by
       have e2 : way t.mask h N = (nth t.mask (nth t.mask p0 c) (N - c)).j := by rw [wc, Nat.add_sub_cancel' hc]
       rw [est, e2]; exact hpr
     rw [pr]; dsimp only
     refine wpAny_pure (hout fun hm => ?_)
     obtain ⟨p2, h2, e2⟩ := List.mem_map.mp hm
     obtain ⟨i2, l2, g2⟩ := List.getElem_of_mem h2
     have h3 : L[i2]? = some p2 := by rw [List.getElem?_eq_getElem l2, g2]
     obtain ⟨d, d1, d2, d3⟩ := ahead i2 p2 h3 e2
     exact hno (d - c) i2 (by omega) (by rw [wc, Nat.add_sub_cancel' d1]; exact d3) ((hashAt i2 p2 h3).trans (by rw [e2, eh]))
theorem seek_add (q : Quiet knd) (R : SetK knd s.heap a L es ep t) {x : Addr} {k : List K} (hx : IsTupleKey knd s.heap k x) (hu : A.units < cLine) {Q : SetFound → Shared → Prop} (hin : k ∈ L.map (·.2) → Q (.there none) s)
   (hout : ∀ N, k ∉ L.map (·.2) → way t.mask (tupleKeyHash knd k) N ∉ t.place.toList → (∀ c, c < N → way t.mask (tupleKeyHash knd k) c ∈ t.place.toList) → Q (.free (way t.mask (tupleKeyHash knd k) N) false) s) :
   wpAny (model P w) A (setSearch a (.ref x) (tupleKeyHash knd k) true) Q E s := by
 have room := R.room
 obtain ⟨N, b1, b2, b3⟩ := R.tab.first (by rw [List.length_map]; omega) (tupleKeyHash knd k)
 have big : N < 100000 := by
   have : 10 * SetTable.turns t.mask ≤ 1420 := by
     unfold SetTable.turns
     rcases R.tab.mok with e | e | e <;> omega
   omega
 unfold setSearch
 refine seek q R hx hu rfl b1 b2 b3 hin (fun hn => hout N hn b2 b3) 100000 0 none rfl (Nat.zero_le _) (by omega) fun i p hp hk => ?_
 have hi : (L.map fun p => tupleKeyHash knd p.2)[i]? = some (tupleKeyHash knd k) := by rw [List.getElem?_map, hp, ← hk]; rfl
 have il : i < t.place.toList.length := by
   rw [Array.length_toList, tab_size R.tab (List.length_map ..)]
   exact (List.getElem?_eq_some_iff.mp hp).1
 obtain ⟨c, hc, e⟩ := R.tab.before b2 hi (List.getElem?_eq_getElem il)
 exact ⟨c, Nat.zero_le _, hc, by rw [List.getElem?_eq_getElem il, e]⟩
end
end Zt
namespace Zt
open PySem PySem.Spec PyProof.Rows L2
section
variable {P : Program} {w : World} {K : Type} [DecidableEq K] {knd : KeyKind P w K} {A : Around} {E : Value → Shared → Prop} {s : Shared} {a : Addr} {L : List (Addr × List K)} {es : Array (Int × Value)} {ep : Nat} {t : SetTable}
theorem tup_but {h g : Heap} {ks : List K} {b : Addr} {o : Obj} (hb : IsTupleKey knd h ks b) (ho : h.get? a = some o) (hd : o.data = .set es ep t) (sb : Heap.SameBut a h g) : IsTupleKey knd g ks b := by
 obtain ⟨o2, its, n, ho2, hc, hd2, hi⟩ := hb
 refine ⟨o2, its, n, (sb.2 b fun e => ?_).trans ho2, hc, hd2, hi⟩
 subst e
 obtain rfl := Option.some.inj (ho2.symm.trans ho)
 rw [hd] at hd2
 exact nomatch hd2
theorem reorder (order : Array Nat) (hr : es.toList = rwsK knd L) (hp : order.toList.Perm (List.range L.length)) : ∃ L2, (order.filterMap (es[·]?)).toList = rwsK knd L2 ∧ L2.Perm L ∧ (L2.map fun p => tupleKeyHash knd p.2) = order.toList.map fun i => (es.map (·.1)).getD i 0 := by
 have sz := rws_len hr
 have ent : ∀ i (h : i < L.length), es[i]? = some (tupleKeyHash knd (L[i]).2, Value.ref (L[i]).1) := fun i h => by
   rw [← Array.getElem?_toList, hr, rwsK, List.getElem?_map, List.getElem?_eq_getElem h]; rfl
 have key : ∀ l : List Nat, (∀ i ∈ l, i < L.length) → l.filterMap (fun i => es[i]?) = rwsK knd (l.filterMap fun i => L[i]?) ∧ ((l.filterMap fun i => L[i]?).map fun p => tupleKeyHash knd p.2) = l.map fun i => (es.map (·.1)).getD i 0 := by
   intro l
   induction l with
   | nil => exact fun _ => ⟨rfl, rfl⟩
   | cons i l ih =>
     intro hl
     have hi := hl i (.head _)
     obtain ⟨e1, e2⟩ := ih fun j hj => hl j (.tail _ hj)
     have g : (es.map (·.1)).getD i 0 = tupleKeyHash knd (L[i]).2 := by
       have : (es.map (·.1))[i]? = some (tupleKeyHash knd (L[i]).2) := by rw [Array.getElem?_map, ent i hi]; rfl
       simp [Array.getD_eq_getD_getElem?, this]
     rw [List.filterMap_cons_some (ent i hi), List.filterMap_cons_some (List.getElem?_eq_getElem hi), e1, List.map_cons, List.map_cons, e2, g]
     exact ⟨rfl, rfl⟩
 obtain ⟨e1, e2⟩ := key order.toList fun i hi => List.mem_range.mp (hp.mem_iff.mp hi)
 refine ⟨_, by rw [Array.toList_filterMap]; exact e1, ?_, e2⟩
 have all : ∀ n, n ≤ L.length → (List.range n).filterMap (fun i => L[i]?) = L.take n := fun n => by
   induction n with
   | zero => exact fun _ => rfl
   | succ n ih =>
     intro hn
     rw [List.range_succ, List.filterMap_append, ih (by omega), List.take_succ, List.getElem?_eq_getElem hn, List.filterMap_cons_some (List.getElem?_eq_getElem hn)]; rfl
 have := hp.filterMap (fun i => L[i]?)
 rwa [all _ (Nat.le_refl _), List.take_length] at this
structure Row (knd : KeyKind P w K) (h : Heap) (L : List (Addr × List K)) (es : Array (Int × Value)) (t : SetTable) : Prop where
 rows : es.toList = rwsK knd L
 tab : TabOk t (L.map fun p => tupleKeyHash knd p.2)
 nd : (L.map (·.2)).Nodup
 tup : ∀ p ∈ L, IsTupleKey knd h p.2 p.1
 led : w.params.followText "set-order" = true ∨ t.led = true
 few : L.length < 64
theorem Row.size (R : Row knd s.heap L es t) : t.place.size = es.size := (tab_size R.tab (List.length_map ..)).trans (rws_len R.rows).symm
theorem larger {o : Obj} (ho : s.heap.get? a = some o) (hex : o.ExactSet) (hd : o.data = .set es ep t) (R : Row knd s.heap L es t) (hle : es.size ≤ t.mask) {wanted M : Nat} (hw : SetTable.sizeAbove wanted - 1 = M) (hM : MaskOk M) (h128 : SetTable.sizeAbove wanted ≤ 128) (hn : L.length * 5 < M * 3) {Q : Unit → Shared → Prop}
   (hQ : ∀ g L2 es2 ep2 t2, Heap.SameBut a s.heap g → SetK knd g a L2 es2 ep2 t2 → L2.Perm L → Q () { s with heap := g }) : wpAny (model P w) A (setRelay a wanted) Q E s := by
 have sz := rws_len R.rows
 obtain ⟨t2, order, e, hp, T, em, el, _, _⟩ := relaid_ok t (hs := es.map (·.1)) (wanted := wanted) hw hM (by rw [Array.size_map, sz]; omega)
 rw [Array.size_map, sz] at hp
 obtain ⟨L2, r1, r2, r3⟩ := reorder order R.rows hp
 rw [← r3] at T
 have sz2 : (order.filterMap (es[·]?)).size = es.size := by rw [rws_len r1, r2.length_eq, sz]
 rw [setRelay_eq]
 refine wpAny_bind (wpAny_setState_of ho hd (fit_of R.size R.tab.dm hle) ?_); dsimp only
 refine wp_if_neg (by rw [sizeLine_eq]; omega) ?_
 try refine wpAny_bind (wpAny_pure ?_)
 rw [e]; dsimp only
 refine wpAny_bind (wp_if_neg (by rw [sz2]; simp) ?_)
 try refine wpAny_bind (wpAny_pure ?_)
 refine wpAny_pure ?_; dsimp only
 have few := R.few
 refine wpAny_storeSet_of ho hd ?_ (by rw [sz2, sz, sizeLine_eq]; omega)
 have sb : Heap.SameBut a s.heap (s.heap.update a (Obj.putSet (order.filterMap (es[·]?)) t2)) := Heap.SameBut.update ..
 exact hQ _ L2 (order.filterMap (es[·]?)) (ep + 1) t2 sb ⟨⟨_, store_at ho hd, ⟨hex.1, hex.2.1, hex.2.2⟩, rfl⟩, r1, T, (r2.map (·.2)).nodup_iff.mpr R.nd, fun p hpm => tup_but (R.tup p (r2.mem_iff.mp hpm)) ho hd sb, R.led.imp id fun z => el.trans z, by rw [r2.length_eq, em]; exact hn, by rw [r2.length_eq]; exact few⟩ r2
theorem tab_off {t : SetTable} {hs : List Int} (T : TabOk t hs) : TabOk { t with plain := false } hs := ⟨T.ris, T.dm, T.sz, T.mok, T.bd, T.reach⟩
theorem add_tup (q : Quiet knd) (R : SetK knd s.heap a L es ep t) {x : Addr} {k : List K} (hx : IsTupleKey knd s.heap k x) (hu : A.units < cLine) (few : L.length + 1 < 64) {Q : Bool → Shared → Prop}
   (hQ : ∀ b g L2 es2 ep2 t2, Heap.SameBut a s.heap g → SetK knd g a L2 es2 ep2 t2 → (k ∈ L.map (·.2) → L2 = L) → (k ∉ L.map (·.2) → L2.Perm ((x, k) :: L)) → Q b { s with heap := g }) :
   wpAny (model P w) A (setAddHashed a (.ref x) (tupleKeyHash knd k)) Q E s := by
 obtain ⟨o, ho, hex, hd⟩ := R.ob
 have sl := R.size
 have room := R.room
 unfold setAddHashed
 refine wpAny_holding ?_
 rw [show (100000 : Nat) = 99999 + 1 from rfl, setAddHashedIn_succ]
 refine wpAny_bind (wpAny_setState_of ho hd R.fits ?_); dsimp only
 refine wp_if_neg (by simp [byScan, Value.scannable]) ?_
 try refine wpAny_bind (wpAny_pure ?_)
 refine wpAny_bind (seek_add q R hx hu (fun hm => ?_) fun N hm hN hb => ?_) <;> dsimp only
 · exact wpAny_pure (hQ false s.heap L es ep t (Heap.SameBut.refl a s.heap) R (fun _ => rfl) fun z => absurd hm z)
 refine wpAny_bind (wpAny_setState_of ho hd R.fits ?_); dsimp only
 obtain ⟨q1, q2, q3, q4, q5, q6, q7, q8, q9⟩ := R.tab.put hN hb
 generalize hpt : t.put (way t.mask (tupleKeyHash knd k) N) = pt at q1 q3 q4 q5 q6 q7 q8 q9 ⊢
 obtain ⟨t1, i⟩ := pt
 dsimp only at q1 q3 q4 q5 q6 q7 q8 q9 ⊢
 subst q1
 have main : ∀ t2 : SetTable, TabOk t2 ((L.map fun p => tupleKeyHash knd p.2).take (SetTable.below t.place (way t.mask (tupleKeyHash knd k) N)) ++ tupleKeyHash knd k :: (L.map fun p => tupleKeyHash knd p.2).drop (SetTable.below t.place (way t.mask (tupleKeyHash knd k) N))) → t2.mask = t.mask → t2.led = t.led → t2.fill = (L.map fun p => tupleKeyHash knd p.2).length + 1 →
     wpAny (model P w) A (do
       storeSet a (SetTable.insertAt es (SetTable.below t.place (way t.mask (tupleKeyHash knd k) N)) (tupleKeyHash knd k, Value.ref x)) t2
       if (!false && t2.tooFull) = true then do
           setRelay a (SetTable.grown (es.size + 1))
           pure true
         else pure true) Q E s := fun t2 T em el ef => by
   have rin : (SetTable.insertAt es (SetTable.below t.place (way t.mask (tupleKeyHash knd k) N)) (tupleKeyHash knd k, Value.ref x)).toList = rwsK knd (L.take (SetTable.below t.place (way t.mask (tupleKeyHash knd k) N)) ++ (x, k) :: L.drop (SetTable.below t.place (way t.mask (tupleKeyHash knd k) N))) := by
     rw [SetTable.toList_insertAt, R.rows]
     unfold rwsK
     rw [List.map_append, List.map_cons, List.map_take, List.map_drop]
   generalize SetTable.below t.place (way t.mask (tupleKeyHash knd k) N) = i at T rin q2 ⊢
   have pm := put_perm L i (x, k)
   have hh : (L.take i ++ (x, k) :: L.drop i).map (fun p => tupleKeyHash knd p.2) = (L.map fun p => tupleKeyHash knd p.2).take i ++ tupleKeyHash knd k :: (L.map fun p => tupleKeyHash knd p.2).drop i := by
     rw [List.map_append, List.map_cons, List.map_take, List.map_drop]
   rw [← hh] at T
   generalize SetTable.insertAt es i (tupleKeyHash knd k, Value.ref x) = es1 at rin ⊢
   generalize L.take i ++ (x, k) :: L.drop i = L1 at pm T rin
   have len : L1.length = L.length + 1 := pm.length_eq
   have sz1 : es1.size = L.length + 1 := (rws_len rin).trans len
   refine wpAny_bind (wpAny_storeSet_of ho hd ?_ (by rw [sz1, sizeLine_eq]; omega))
   have sb : Heap.SameBut a s.heap (s.heap.update a (Obj.putSet es1 t2)) := Heap.SameBut.update ..
   have o1 := store_at (es' := es1) (t' := t2) ho hd
   generalize s.heap.update a (Obj.putSet es1 t2) = g at sb o1 ⊢
   have W : Row knd g L1 es1 t2 := ⟨rin, T, (pm.map (·.2)).nodup_iff.mpr (List.nodup_cons.mpr ⟨hm, R.nd⟩), fun p hp => by
     rcases List.mem_cons.mp (pm.mem_iff.mp hp) with e | hp
     · rw [e]; exact tup_but hx ho hd sb
     · exact tup_but (R.tup p hp) ho hd sb, R.led.imp id fun z => el.trans z, by omega⟩
   have ef : t2.fill = L.length + 1 := by rw [ef, List.length_map]
   by_cases hf : t2.tooFull = true
   · rw [if_pos (by simp [hf]), sl]
     have full : (L.length + 1) * 5 ≥ t2.mask * 3 := by
       have h := hf
       unfold SetTable.tooFull at h
       rwa [decide_eq_true_eq, ef] at h
     have two : (t.mask = 7 ∧ L.length = 4) ∨ (t.mask = 31 ∧ L.length = 18) := by
       rcases R.tab.mok with e | e | e <;> rw [em, e] at full <;> rw [e] at room
       · exact .inl ⟨e, by omega⟩
       · exact .inr ⟨e, by omega⟩
       · omega
     have go : ∀ M, SetTable.sizeAbove (SetTable.grown (L.length + 1)) - 1 = M → MaskOk M → SetTable.sizeAbove (SetTable.grown (L.length + 1)) ≤ 128 → (L.length + 1) * 5 < M * 3 → wpAny (model P w) A (setRelay a (SetTable.grown (L.length + 1))) (fun _ u => wpAny (model P w) A (pure true) Q E u) E { s with heap := g } := fun M m1 m2 m3 m4 => by
       refine larger (s := { s with heap := g }) o1 ⟨hex.1, hex.2.1, hex.2.2⟩ rfl W (by rw [sz1, em]; rcases two with ⟨e, e2⟩ | ⟨e, e2⟩ <;> omega) m1 m2 m3 (by rw [len]; exact m4) fun g2 L2 es2 ep2 t3 sb2 R2 pm2 => ?_
       exact wpAny_pure (hQ true g2 L2 es2 ep2 t3 (sb.trans sb2) R2 (fun z => absurd z hm) fun _ => pm2.trans pm)
     refine wpAny_bind ?_
     rcases two with ⟨_, e2⟩ | ⟨_, e2⟩
     · exact go 31 (by rw [e2, size_20]) (.inr (.inl rfl)) (by rw [e2, size_20]; decide) (by omega)
     · exact go 127 (by rw [e2, size_76]) (.inr (.inr rfl)) (by rw [e2, size_76]; decide) (by omega)
   · rw [if_neg (by simp [hf])]
     refine wpAny_pure (hQ true g L1 es1 (ep + 1) t2 sb ⟨⟨_, o1, ⟨hex.1, hex.2.1, hex.2.2⟩, rfl⟩, rin, T, W.nd, W.tup, W.led, ?_, W.few⟩ (fun z => absurd z hm) fun _ => pm)
     have h := hf
     unfold SetTable.tooFull at h
     rw [decide_eq_true_eq, ef] at h
     rw [len]
     omega
 by_cases pl : t1.plain = true
 · rw [if_pos pl]
   refine wpAny_bind (some_hash q hx fun c => ?_)
   cases c
   · exact main { t1 with plain := false } (tab_off q3) q4 q5 q9
   · exact main t1 q3 q4 q5 q9
 · rw [if_neg pl]
   refine wpAny_bind (wpAny_pure ?_)
   exact main t1 q3 q4 q5 q9
end
end Zt
namespace Zt
open PySem PySem.Spec PyProof.Rows L2
section
variable {P : Program} {w : World} {K : Type} [DecidableEq K] {knd : PySem.KeyKind P w K}
def Half (ks L : List (Addr × List K)) (i : Nat) : Prop := (∀ x ∈ L, x ∈ ks.take i) ∧ (∀ x ∈ ks.take i, x.2 ∈ L.map Prod.snd) ∧ L.length ≤ i
theorem half_next {ks L M : List (Addr × List K)} {i : Nat} {x : Addr × List K} (g : Half ks L i) (h : ks[i]? = some x) (c : (x.2 ∈ L.map Prod.snd ∧ M = L) ∨ M.Perm (x :: L)) : Half ks M (i + 1) := by
 obtain ⟨g1, g2, g3⟩ := g
 have tk : ks.take (i + 1) = ks.take i ++ [x] := by rw [List.take_succ, h]; rfl
 rw [Half, tk]
 rcases c with ⟨c, rfl⟩ | c
 · exact ⟨fun y hy => List.mem_append_left _ (g1 y hy), fun y hy => (List.mem_append.mp hy).elim (g2 y) fun z => (List.mem_singleton.mp z) ▸ c, Nat.le_succ_of_le g3⟩
 · refine ⟨fun y hy => ?_, fun y hy => ?_, by rw [c.length_eq, List.length_cons]; omega⟩
   · rcases List.mem_cons.mp (c.mem_iff.mp hy) with e | z
     · exact List.mem_append_right _ (List.mem_singleton.mpr e)
     · exact List.mem_append_left _ (g1 y z)
   · rw [(c.map Prod.snd).mem_iff, List.map_cons]
     rcases List.mem_append.mp hy with z | z
     · exact .tail _ (g2 y z)
     · exact (List.mem_singleton.mp z) ▸ .head _
theorem tup_on {h g : Heap} {k : List K} {b : Addr} (x : IsTupleKey knd h k b) (e : ∀ o, h.get? b = some o → g.get? b = some o) : IsTupleKey knd g k b := by
 obtain ⟨o, its, n, ho, r⟩ := x
 exact ⟨o, its, n, e o ho, r⟩
theorem tup_lt {h : Heap} {k : List K} {b : Addr} (x : IsTupleKey knd h k b) : b < h.objs.size := by
 obtain ⟨o, its, n, ho, r⟩ := x
 exact Heap.lt_size ho
theorem setK_new {h : Heap} {a : Addr} (ho : h.get? a = some (newSet w)) : SetK knd h a [] #[] 0 (.fresh 0 0 (!w.params.followText "set-order")) := by
 refine ⟨⟨_, ho, ⟨rfl, rfl, rfl⟩, rfl⟩, rfl, ⟨.nil, rfl, rfl, .inl rfl, (fun x hx => nomatch hx), fun i h j hi => by simp at hi⟩, .nil, (fun p hp => nomatch hp), ?_, by show 0 * 5 < 7 * 3; decide, by show 0 < 64; decide⟩
 show _ ∨ (!w.params.followText "set-order") = true
 cases w.params.followText "set-order" <;> simp
theorem SetK.on {h g : Heap} {a : Addr} {L : List (Addr × List K)} {es : Array (Int × Value)} {ep : Nat} {t : SetTable} (R : SetK knd h a L es ep t) (e : ∀ o, h.get? a = some o → g.get? a = some o) (f : ∀ p ∈ L, IsTupleKey knd g p.2 p.1) : SetK knd g a L es ep t := by
 obtain ⟨o, ho, r⟩ := R.ob
 exact ⟨⟨o, e o ho, r⟩, R.rows, R.tab, R.nd, f, R.led, R.room, R.few⟩
end
section
variable {P : Program} {w : World} {A : Around} {E : Value → Shared → Prop} {s : Shared} {K : Type} [DecidableEq K] {knd : PySem.KeyKind P w K}
theorem set_tupK (q : Quiet knd) {l : Addr} {items : Array Value} (ks : List (Addr × List K)) {Q : Value → Shared → Prop} (hh : A.handled = none) (hl : s.heap.IsList l items) (hit : items.toList = ks.map fun p => Value.ref p.1)
   (hk : ∀ p ∈ ks, IsTupleKey knd s.heap p.2 p.1) (few : ks.length < 64) (hu : A.units + 3 < cLine)
   (h : ∀ (g : Heap) (tk : Nat) L es ep t, SetK knd g s.heap.objs.size L es ep t → Half ks L ks.length → (∀ b o, s.heap.get? b = some o → g.get? b = some o) → Q (.ref s.heap.objs.size) { s with heap := g, toks := tk }) :
   wpAny (model P w) A (call (.type "set") [.ref l]) Q E s := by
 have sz : items.size = ks.length := by rw [← Array.length_toList, hit, List.length_map]
 refine set_list (fun i g => (∃ L es ep t, SetK knd g s.heap.objs.size L es ep t ∧ Half ks L i) ∧ ∀ p ∈ ks, IsTupleKey knd g p.2 p.1) hh hl ?_ (fun i h0 g ⟨⟨L, es, ep, t, R, m⟩, f⟩ k => ?_) (fun B X i v u R hB hv ⟨⟨L, es, ep, t, S, m⟩, f⟩ hR => ?_) fun g tk ⟨⟨L, es, ep, t, R, m⟩, _⟩ k => h g tk L es ep t R (sz ▸ m) k
 · exact ⟨⟨[], _, _, _, setK_new (Heap.get?_push_size _ rfl), fun x hx => (nomatch hx), fun x hx => by simp at hx, Nat.le_refl _⟩, fun p hp => tup_on (hk p hp) fun o e => Heap.get?_push_of_some _ e⟩
 · have f2 : ∀ p ∈ ks, IsTupleKey knd g p.2 p.1 := fun p hp => tup_on (f p hp) fun o e => k _ o (Nat.le_of_lt (tup_lt (hk p hp))) e
   exact ⟨⟨L, es, ep, t, R.on (fun o e => k _ o (Nat.le_refl _) e) fun p hp => f2 p (List.mem_of_mem_take (m.1 p hp)), m⟩, f2⟩
 · have hv2 : (ks.map fun p => Value.ref p.1)[i]? = some v := by rw [← hit, Array.getElem?_toList]; exact hv
   rw [List.getElem?_map] at hv2
   obtain ⟨p, hp, rfl⟩ := Option.map_eq_some_iff.mp hv2
   have len := m.2.2
   have lt : i < ks.length := (List.getElem?_eq_some_iff.mp hp).1
   have hx := f p (List.mem_of_getElem? hp)
   obtain ⟨o, ho, _, hd⟩ := S.ob
   unfold setAdd
   refine wpAny_holding (wpAny_bind (wpAny_pyHash_tuple (by omega) hx ?_))
   refine add_tup (s := { u with toks := u.toks + (p.2.length + 1) }) q S hx (by omega) (by omega) fun b g L2 es2 ep2 t2 sb S2 c1 c2 => hR b g _ (Nat.le_add_right ..) sb ⟨⟨L2, es2, ep2, t2, S2, half_next m hp ?_⟩, fun p2 h2 => tup_but (f p2 h2) ho hd sb⟩
   rcases Classical.em (p.2 ∈ L.map Prod.snd) with c | c
   · exact .inl ⟨c, c1 c⟩
   · exact .inr (c2 c)
end
def txk (k : List Str) : List (Int ⊕ List Nat) := k.map fun x => .inr x.cps.toList
theorem ltX_eq : ∀ a b : List Str, ltX a b = lexLt itemOrd (txk a) (txk b)
 | [], [] => rfl
 | [], _ :: _ => rfl
 | _ :: _, [] => rfl
 | x :: a, y :: b => by
   rw [ltX, ltX_eq a b]; rfl
def leX (a b : List Str) : Bool := !ltX b a
theorem txk_inj : ∀ {a b : List Str}, txk a = txk b → a = b
 | [], [], _ => rfl
 | [], _ :: _, h => by simp [txk] at h
 | _ :: _, [], h => by simp [txk] at h
 | x :: a, y :: b, h => by
   simp only [txk, List.map_cons, List.cons.injEq, Sum.inr.injEq] at h
   have e : x.cps = y.cps := Array.toList_inj.mp h.1
   have e2 : x = y := by cases x; cases y; simp only [Str.mk.injEq]; exact e
   rw [e2, txk_inj (show txk a = txk b from h.2)]
theorem leX_anti {a b : List Str} (h1 : leX a b = true) (h2 : leX b a = true) : a = b := by
 unfold leX at h1 h2
 rw [ltX_eq, Bool.not_eq_true'] at h1 h2
 exact txk_inj (lex_total _ _ h2 h1)
theorem leX_trans {a b c : List Str} (h1 : leX a b = true) (h2 : leX b c = true) : leX a c = true := by
 unfold leX at h1 h2 ⊢
 rw [ltX_eq, Bool.not_eq_true'] at h1 h2 ⊢
 exact KeyOrd.kle_trans (O := listOrd itemOrd) h1 h2
theorem leX_total (a b : List Str) (h : ¬ leX a b = true) : leX b a = true := by
 unfold leX at h ⊢
 rw [ltX_eq, Bool.not_eq_true', Bool.not_eq_false] at h
 rw [ltX_eq, Bool.not_eq_true']
 exact KeyOrd.klt_asymm (O := listOrd itemOrd) h
theorem insX_perm (x : List Str) : ∀ l : List (List Str), (insX x l).Perm (x :: l)
 | [] => .refl _
 | y :: r => by
   rw [insX]
   split
   · exact ((insX_perm x r).cons y).trans (.swap ..)
   · exact .refl _
theorem sortX_perm : ∀ l : List (List Str), (sortX l).Perm l
 | [] => .refl _
 | x :: r => (insX_perm x (sortX r)).trans ((sortX_perm r).cons x)
theorem insX_rise (x : List Str) : ∀ {l : List (List Str)}, l.Pairwise (fun a b => leX a b = true) → (insX x l).Pairwise fun a b => leX a b = true
 | [], _ => by simp [insX]
 | y :: r, h => by
   rw [List.pairwise_cons] at h
   rw [insX]
   split
   · rename_i c
     have c : leX y x = true := leX_total x y (by unfold leX; rw [c]; decide)
     exact List.pairwise_cons.mpr ⟨fun z hz => (List.mem_cons.mp ((insX_perm x r).mem_iff.mp hz)).elim (fun e => e ▸ c) (h.1 z), insX_rise x h.2⟩
   · rename_i c
     have c : leX x y = true := by unfold leX; rw [Bool.not_eq_true'] ; exact Bool.not_eq_true _ ▸ c
     exact List.pairwise_cons.mpr ⟨fun z hz => (List.mem_cons.mp hz).elim (fun e => e ▸ c) fun z2 => leX_trans c (h.1 z z2), List.pairwise_cons.mpr h⟩
theorem sortX_rise : ∀ l : List (List Str), (sortX l).Pairwise fun a b => leX a b = true
 | [] => .nil
 | x :: r => insX_rise x (sortX_rise r)
theorem riseX_eq {l m : List (List Str)} (p : l.Perm m) (a : l.Pairwise fun a b => leX a b = true) (b : m.Pairwise fun a b => leX a b = true) : l = m :=
 p.eq_of_pairwise (fun _ _ _ _ h k => leX_anti h k) a b
theorem mem_once {α : Type} [DecidableEq α] (x : α) : ∀ l : List α, x ∈ once l ↔ x ∈ l
 | [] => Iff.rfl
 | y :: r => by
   rw [once]
   split
   · rename_i c
     rw [mem_once x r, List.mem_cons]
     exact ⟨.inr, fun h => h.elim (fun e => e ▸ c) id⟩
   · rw [List.mem_cons, List.mem_cons, mem_once x r]
theorem once_nodup {α : Type} [DecidableEq α] : ∀ l : List α, (once l).Nodup
 | [] => .nil
 | y :: r => by
   rw [once]
   split
   · exact once_nodup r
   · rename_i c
     exact List.nodup_cons.mpr ⟨fun h => c ((mem_once y r).mp h), once_nodup r⟩
section
variable {P : Program} {w : World}
theorem items_tup : ∀ {k : List Str} {vs : List Value} {i : Nat}, PySem.ItemsAre (PySem.strKind P w) k vs → tupItems (fun _ => true) i vs = some (txk k)
 | _, _, _, .nil => rfl
 | _, _, i, .cons (k := x) (ks := ks) h t => by
   obtain ⟨tk, e⟩ := Value.isStrOf_shape h
   rw [e]
   have ih := items_tup (i := i + 1) t
   show (if (fun _ => true) i = true then (tupItems _ (i + 1) _).map _ else none) = _
   rw [if_pos rfl, ih]; rfl
theorem tup_keyX {h : Heap} {k : List Str} {b : Addr} (x : IsTupleKey (PySem.strKind P w) h k b) : G.tupKeyC h (fun _ => true) (.ref b) = some (txk k) := by
 obtain ⟨o, its, n, ho, hc, hd, hi⟩ := x
 have e1 : G.isTupObj h (.ref b) = true := by simp [G.isTupObj, ho, hc]
 have e2 : PyProof.Rows.tupKey h (fun _ => true) (.ref b) = some (txk k) := by simp only [PyProof.Rows.tupKey, ho, hd]; exact items_tup hi
 unfold G.tupKeyC
 rw [if_pos e1, e2]
theorem tup_front {h : Heap} {k : List Str} {b : Addr} (x : IsTupleKey (PySem.strKind P w) h k b) (ne : k ≠ []) : ∃ f, TupOf h (fun _ => true) (.ref b) f := by
 obtain ⟨o, its, n, ho, hc, hd, hi⟩ := x
 generalize el : its.toList = l at hi
 cases hi with
 | nil => exact absurd rfl ne
 | cons h1 t =>
   rename_i k1 v ks vs
   obtain ⟨tk, e⟩ := Value.isStrOf_shape h1
   refine ⟨v, b, o, its, n, rfl, ho, hc, hd, ?_, fun z => absurd z (by decide), fun _ => ⟨k1, tk, e⟩⟩
   rw [← Array.getElem?_toList, el]; rfl
end
section
variable {P : Program} {w : World} {A : Around} {E : Value → Shared → Prop} {s : Shared}
theorem sorted_tupX {a : Addr} {L : List (Addr × List Str)} {es : Array (Int × Value)} {ep : Nat} {t : SetTable} {Q : Value → Shared → Prop} (R : SetK (PySem.strKind P w) s.heap a L es ep t) (hh : A.handled = none) (ne : ∀ x ∈ L, x.2 ≠ [])
   (hQ : ∀ z p (out : Array Value) (c : Nat) (M : List (Addr × List Str)), (∀ b o, s.heap.get? b = some o → z.heap.get? b = some o) → z.gens = s.gens → z.os = s.os → s.heap.objs.size ≤ p → z.heap.get? p = some (seqObj "list" out c) → out.toList = M.map (fun x => Value.ref x.1) → M.Perm L → M.Pairwise (fun x y => leX x.2 y.2 = true) → Q (.ref p) z) :
   wpAny (model P w) A (call (.builtin "sorted") [.ref a]) Q E s := by
 obtain ⟨o, ho, hex, hd⟩ := R.ob
 have few := R.few
 refine Calls.call_function_entry kind_sorted plain_sorted entry_sorted (args_sorted1 _) ?_
 unfold Builtin.«sorted»
 refine wpAny_bind (m := checkCount "sorted" 1 1 _) (wpAny_pure (wpAny_bind (collect_set (A := A.in1) hh ⟨o, ho, hex.1, hd⟩ R.fits (by rw [R.size]; unfold scanBound; omega) R.tab.ris R.led fun s1 vs k1 hz g1 o1 pm => ?_)))
 rw [show es.toList.map (·.2) = L.map (fun x => Value.ref x.1) by rw [R.rows, rwsK, List.map_map]; rfl] at pm
 have pull : ∀ us : List Value, us.Perm (L.map fun x => Value.ref x.1) → ∃ M : List (Addr × List Str), us = M.map (fun x => Value.ref x.1) ∧ M.Perm L := fun us pu => by
   have all : ∀ l : List Value, (∀ v ∈ l, ∃ x ∈ L, v = Value.ref x.1) → ∃ M : List (Addr × List Str), l = M.map (fun x => Value.ref x.1) ∧ ∀ x ∈ M, x ∈ L := by
     intro l
     induction l with
     | nil => exact fun _ => ⟨[], rfl, fun x hx => nomatch hx⟩
     | cons v l ih =>
       intro hv
       obtain ⟨x, hx, e⟩ := hv v (.head _)
       obtain ⟨M, e2, hM⟩ := ih fun u hu => hv u (.tail _ hu)
       exact ⟨x :: M, by rw [e, e2]; rfl, fun y hy => (List.mem_cons.mp hy).elim (fun z => z ▸ hx) (hM y)⟩
   obtain ⟨M, e, sub⟩ := all us fun v hv => by
     obtain ⟨x, hx, z⟩ := List.mem_map.mp (pu.mem_iff.mp hv)
     exact ⟨x, hx, z.symm⟩
   have key : ∀ x ∈ L, ∀ y ∈ L, x.1 = y.1 → x = y := fun x hx y hy z => by
     have a1 := R.tup x hx
     rw [z] at a1
     exact Prod.ext z (a1.inj (R.tup y hy))
   have n1 : L.Nodup := .of_map _ (fun _ _ hn z => hn (congrArg Prod.snd z)) R.nd
   have n2 : (L.map fun x => Value.ref x.1).Nodup := List.pairwise_map.mpr (n1.imp_of_mem fun {x y} hx hy hn z => hn (key x hx y hy (by injection z)))
   have n3 : M.Nodup := .of_map _ (fun _ _ hn z => hn (congrArg (fun x : Addr × List Str => Value.ref x.1) z)) (e ▸ pu.nodup_iff.mpr n2)
   refine ⟨M, e, (List.perm_ext_iff_of_nodup n3 n1).mpr fun x => ⟨sub x, fun hx => ?_⟩⟩
   obtain ⟨y, hy, z⟩ := List.mem_map.mp (e ▸ pu.mem_iff.mpr (List.mem_map.mpr ⟨x, hx, rfl⟩) : Value.ref x.1 ∈ M.map fun x => Value.ref x.1)
   rw [← key y (sub y hy) x hx (by injection z)]
   exact hy
 have vl : vs.length < 64 := by rw [pm.length_eq, List.length_map]; exact few
 refine wpAny_bind (wpAny_newList ?_ (by rw [sizeLine_eq]; omega))
 have oL : (s1.heap.push (seqObj "list" vs.toArray 0)).get? s1.heap.objs.size = some (seqObj "list" vs.toArray 0) := Heap.get?_push_size _ rfl
 generalize hg : s1.heap.push (seqObj "list" vs.toArray 0) = g at oL
 have kg : ∀ b u, s.heap.get? b = some u → g.get? b = some u := fun b u e => hg ▸ Heap.get?_push_of_some _ (k1 b u e)
 have tup : ∀ x ∈ L, IsTupleKey (PySem.strKind P w) g x.2 x.1 := fun x hx => tup_on (R.tup x hx) (kg _)
 obtain ⟨V, eV, pV⟩ := pull vs pm
 have mV : ∀ v ∈ vs, ∃ x ∈ L, v = Value.ref x.1 := fun v hv => by
   rw [eV] at hv
   obtain ⟨x, hx, z⟩ := List.mem_map.mp hv
   exact ⟨x, pV.mem_iff.mp hx, z.symm⟩
 have fr : ∀ l : List Value, (∀ v ∈ l, v ∈ vs) → ∃ fs, TupsOf g (fun _ => true) l fs := by
   intro l
   induction l with
   | nil => exact fun _ => ⟨[], .nil⟩
   | cons v l ih =>
     intro hv
     obtain ⟨x, hx, rfl⟩ := mV v (hv v (.head _))
     obtain ⟨f, hf⟩ := tup_front (tup x hx) (ne x hx)
     obtain ⟨fs, hfs⟩ := ih fun u hu => hv u (.tail _ hu)
     exact ⟨f :: fs, .cons hf hfs⟩
 obtain ⟨fs, hfs⟩ := fr vs fun _ h => h
 refine wpAny_bind (wpAny_holding (wpAny_call_entry slot_list_sort ⟨_, oL, rfl⟩ entry_list_sort (G.list_sort_tups (s := { s1 with heap := g }) (shape := fun _ => true) oL hfs (fun v hv => ?_) (by rw [sizeLine_eq]; omega) fun st hp hs _ => ⟨_, rfl, ?_⟩) (args_list_sort _)))
 · obtain ⟨x, hx, rfl⟩ := mV v hv
   exact ⟨_, tup_keyX (tup x hx)⟩
 have hl : (arrOf st).toList.Perm (vs.zip vs) := by rw [← pairsOf_toList]; exact Array.perm_iff_toList_perm.mp hp
 have same : ∀ p ∈ (arrOf st).toList, p.1 = p.2 ∧ p.1 ∈ vs := fun p h => mem_zip_self (hl.mem_iff.mp h)
 have po : ((arrOf st).map (·.2)).toList.Perm vs := by
   rw [Array.toList_map]
   have := hl.map Prod.snd
   rwa [List.map_snd_zip (Nat.le_refl _)] at this
 obtain ⟨M, eM, pM⟩ := pull _ (po.trans pm)
 obtain ⟨c, hc⟩ := sortedHeap_at (vs := vs) (out := (arrOf st).map (·.2)) oL
 refine wpAny_pure ⟨_, rfl, hQ _ s1.heap.objs.size _ c M (fun b u e => ?_) g1 o1 hz hc eM pM ?_⟩
 · have lt := Heap.lt_size (k1 b u e)
   show (sortedHeap g s1.heap.objs.size vs _).get? b = some u
   rw [sortedHeap_old (Nat.ne_of_lt lt) (by rw [← hg, size_push']; exact Nat.lt_succ_of_lt lt)]
   exact kg b u e
 · rw [List.pairwise_iff_getElem]
   intro i j hi hj hij
   have e1 : M.length = (arrOf st).size := by
     have := congrArg List.length eM
     rw [List.length_map, Array.length_toList, Array.size_map] at this
     exact this.symm
   have at' : ∀ (k : Nat) (hk : k < M.length), ∃ h2 : k < (arrOf st).size, KK (G.tupKindC g fun _ => true) (arrOf st) k = txk (M[k]).2 := fun k hk => by
     have h2 : k < (arrOf st).size := by omega
     refine ⟨h2, KK_getElem h2 ?_⟩
     have e3 : (arrOf st)[k].2 = Value.ref (M[k]).1 := by
       have := congrArg (fun l : List Value => l[k]?) eM
       simp only [Array.toList_map, List.getElem?_map, Array.getElem?_toList, Array.getElem?_eq_getElem h2, List.getElem?_eq_getElem hk, Option.map_some] at this
       exact Option.some.inj this
     rw [(same _ (by simp)).1, e3]
     exact tup_keyX (tup _ (pM.mem_iff.mp (List.getElem_mem hk)))
   obtain ⟨h2, k2⟩ := at' i hi
   obtain ⟨h3, k3⟩ := at' j hj
   have le := hs i j (Nat.le_of_lt hij) (by rw [← hp.size_eq]; exact h3)
   rw [k2, k3] at le
   unfold leX
   rw [ltX_eq, show lexLt itemOrd (txk (M[j]).2) (txk (M[i]).2) = false from le]; rfl
end
end Zt
namespace Zt
open PySem PySem.Spec PyProof.Rows L2
def SetX0 (P : Program) (w : World) (h : Heap) (a : Addr) (L : List (Addr × List Str)) : Prop := ∃ (es : Array (Int × Value)) (ep : Nat) (t : SetTable), (∃ o, h.get? a = some o ∧ o.ExactSet ∧ o.data = .set es ep t) ∧ es.toList = rwsK (PySem.strKind P w) L ∧
 TabOk t (L.map fun p => tupleKeyHash (PySem.strKind P w) p.2) ∧ (L.map Prod.snd).Nodup ∧ (w.params.followText "set-order" = true ∨ t.led = true) ∧ L.length * 5 < t.mask * 3 ∧ L.length < 64
def TwO (P : Program) (w : World) (a : Addr) (L : List (Addr × List Str)) : HO := .ext fun h => SetX0 P w h a L
theorem SetX0.full {P : Program} {w : World} {h : Heap} {a : Addr} {L : List (Addr × List Str)} (R : SetX0 P w h a L) (f : ∀ x ∈ L, IsTupleKey (PySem.strKind P w) h x.2 x.1) : ∃ es ep t, SetK (PySem.strKind P w) h a L es ep t := by
 obtain ⟨es, ep, t, r1, r2, r3, r4, r5, r6, r7⟩ := R
 exact ⟨es, ep, t, r1, r2, r3, r4, f, r5, r6, r7⟩
theorem twO_new {P : Program} {w : World} {H : Hp} {h : Heap} {a : Addr} {L : List (Addr × List Str)} {es : Array (Int × Value)} {ep : Nat} {t : SetTable} (R : SetK (PySem.strKind P w) h a L es ep t) : ObjOk P w H h a (TwO P w a L) := by
 obtain ⟨o, ho, r⟩ := R.ob
 refine ⟨⟨es, ep, t, R.ob, R.rows, R.tab, R.nd, R.led, R.room, R.few⟩, ⟨o, ho⟩, fun h1 h2 p k => ?_⟩
 obtain ⟨es2, ep2, t2, ⟨o2, ho2, r2⟩, q2⟩ := p
 exact ⟨es2, ep2, t2, ⟨o2, k o2 ho2, r2⟩, q2⟩
theorem strs_items {P : Program} {w : World} : ∀ {k : List Str} {us : List Value}, Vals (k.map V.str) us → PySem.ItemsAre (PySem.strKind P w) k us
 | [], _, .nil => .nil
 | x :: k, _, .cons r t => by
   obtain ⟨tk, rfl⟩ := r
   exact .cons (strKind_is P w x tk) (strs_items t)
theorem row_refs : ∀ {ks : List (Addr × List Str)} {us : List Value}, Vals (ks.map fun x => V.ref x.1) us → us = ks.map fun x => Value.ref x.1
 | [], _, .nil => rfl
 | x :: ks, _, .cons r t => by cases r; rw [row_refs t]; rfl
theorem row_vals : ∀ ks : List (Addr × List Str), Vals (ks.map fun x => V.ref x.1) (ks.map fun x => Value.ref x.1)
 | [] => .nil
 | _ :: ks => .cons rfl (row_vals ks)
section
variable {X : Cx}
theorem inv_isX {pins : List (Addr × Obj)} {σ : St} {H : Hp} {s : Shared} {b : Addr} {k : List Str} (I : Inv X pins σ H s) (h : SqT X.K H b (k.map V.str)) : IsTupleKey (PySem.strKind X.prog X.w) s.heap k b := by
 obtain ⟨its, r, ⟨o, ho, hc, n, hd⟩, _⟩ := I.tuple h
 exact ⟨o, its.toArray, n, ho, hc, hd, by simpa using strs_items r⟩
def rSetW (X : Cx) : List V → Hp → VK → Prop := fun xs H Q => ∃ (l : Addr) (ks : List (Addr × List Str)), xs = [V.ref l] ∧ SqL X.K H l (ks.map fun x => V.ref x.1) ∧ (∀ x ∈ ks, SqT X.K H x.1 (x.2.map V.str)) ∧ ks.length < 64 ∧
 ∀ a L, H a = none → (∀ x ∈ L, x ∈ ks) → (∀ x ∈ ks, x.2 ∈ L.map Prod.snd) → Q (.ref a) (upd H a (TwO X.prog X.w a L))
theorem cr_setW (hc : X.calm = true) (hu : X.A.units + 64 < cLine) : CallR X (.type "set") (rSetW X) := by
 intro pins s σ H xs us Q I r h
 obtain ⟨l, ks, rfl, hl, hk, few, q⟩ := h
 rw [Vals.ref1 r]
 obtain ⟨its, rv, pl, hz⟩ := I.list hl
 refine set_tupK (P := X.prog) (w := X.w) quiet_str ks (I.ok.hd hc) pl.isList (by simpa using row_refs rv) (fun x hx => inv_isX I (hk x hx)) few (by omega) fun g tk L es ep t R m k => ?_
 exact ⟨.ref s.heap.objs.size, upd H s.heap.objs.size (TwO X.prog X.w s.heap.objs.size L), I.laid (t' := tk) k (Nat.le_refl _) (twO_new R), rfl, q _ L (I.hok.fresh (Nat.le_refl _)) (fun x hx => List.mem_of_mem_take (m.1 x hx)) fun x hx => m.2.1 x (by rw [List.take_length]; exact hx)⟩
def rSortW (X : Cx) : List V → Hp → VK → Prop := fun vs H Q => ∃ (a : Addr) (L : List (Addr × List Str)), vs = [V.ref a] ∧ H a = some (TwO X.prog X.w a L) ∧ (∀ x ∈ L, SqT X.K H x.1 (x.2.map V.str) ∧ x.2 ≠ []) ∧
 ∀ (M : List (Addr × List Str)) (p : Addr), M.Perm L → (M.map Prod.snd).Nodup → M.Pairwise (fun x y => leX x.2 y.2 = true) → H p = none → Q (.ref p) (upd H p (.lst (M.map fun x => V.ref x.1)))
theorem cr_sortW (hc : X.calm = true) : CallR X (.builtin "sorted") (rSortW X) := by
 intro pins s σ H vs us Q I r h
 obtain ⟨a, L, rfl, ha, hk, q⟩ := h
 have R0 : SetX0 X.prog X.w s.heap a L := (I.hok a _ ha).1
 obtain ⟨es, ep, t, R⟩ := R0.full fun x hx => inv_isX I (hk x hx).1
 rw [Vals.ref1 r]
 refine sorted_tupX R (I.ok.hd hc) (fun x hx => (hk x hx).2) fun z p out c M k g o hp hg hout pm pw => ?_
 have few := R.few
 have room : (M.map fun x => V.ref x.1).length ≤ sizeLine := by rw [List.length_map, pm.length_eq, sizeLine_eq]; omega
 have hn : H p = none := I.hok.fresh hp
 have J : Inv X pins σ (upd H p (.lst (M.map fun x => V.ref x.1))) { s with heap := z.heap, gens := z.gens, drawn := z.drawn, toks := z.toks } :=
   I.call (ch := []) (Un.laid k hp hn) (I.hok.laid k hp ⟨room, out.toList, c, by rw [hout]; exact row_vals M, hg⟩) (by rw [g]; exact I.bare) (fun _ z => nomatch z)
 have e : z = { s with heap := z.heap, gens := z.gens, drawn := z.drawn, toks := z.toks } := by
   cases z; cases s; cases o; rfl
 rw [e]
 exact ⟨.ref p, _, J, rfl, q M p pm ((pm.map Prod.snd).nodup_iff.mpr R.nd) pw hn⟩
end
section
variable {K : PySem.W.Frag} {ι : Io} {H : Hp}
theorem Den.sqX {p : Addr} {t : List Str} (d : Den K ι H (.ref p) (.tuple (t.map .str))) : SqT K H p (t.map V.str) := by
 obtain ⟨p2, us, e, _, sq, l⟩ := d.tup_inv
 cases e
 have h : ∀ t : List Str, strsOf (t.map .str) = some t := fun t => by
   induction t with
   | nil => rfl
   | cons x t ih => rw [List.map_cons, strsOf, ih]; rfl
 exact (l.ofStrs (h t)).1 ▸ sq
theorem txs_rows : ∀ {vs : List V} {ds : List D} {tss : List (List Str)}, DenL K ι H vs ds → txsOf ds = some tss → ∃ ks : List (Addr × List Str), vs = ks.map (fun x => V.ref x.1) ∧ ks.map Prod.snd = tss ∧ ∀ x ∈ ks, SqT K H x.1 (x.2.map V.str) ∧ Den K ι H (.ref x.1) (.tuple (x.2.map .str))
 | _, _, _, .nil, h => by cases h; exact ⟨[], rfl, rfl, fun x hx => nomatch hx⟩
 | _, _, _, .cons (d := d) (ds := ds) a b, h => by
   cases d with
   | tuple xs =>
     unfold txsOf at h
     cases h1 : strsOf xs with
     | none => rw [h1] at h; simp at h
     | some ss =>
       cases h2 : txsOf ds with
       | none => rw [h1, h2] at h; simp at h
       | some tss =>
         rw [h1, h2] at h
         cases h
         obtain ⟨p, us, rfl, _, sq, l⟩ := a.tup_inv
         obtain ⟨e1, e2⟩ := l.ofStrs h1
         obtain ⟨ks, k1, k2, k3⟩ := txs_rows b h2
         refine ⟨(p, ss) :: ks, by rw [k1]; rfl, by rw [← k2]; rfl, fun x hx => ?_⟩
         rcases List.mem_cons.mp hx with e | hx
         · rw [e]; exact ⟨e1 ▸ sq, e2 ▸ a⟩
         · exact k3 x hx
   | _ => cases h
theorem rows_den : ∀ M : List (Addr × List Str), (∀ x ∈ M, Den K ι H (.ref x.1) (.tuple (x.2.map .str))) → DenL K ι H (M.map fun x => V.ref x.1) ((M.map Prod.snd).map fun t => .tuple (t.map .str))
 | [], _ => .nil
 | x :: M, h => .cons (h x (.head _)) (rows_den M fun y hy => h y (.tail _ hy))
theorem rows_sorted {ks L M : List (Addr × List Str)} (s1 : ∀ x ∈ L, x ∈ ks) (s2 : ∀ x ∈ ks, x.2 ∈ L.map Prod.snd) (pm : M.Perm L) (nd : (M.map Prod.snd).Nodup) (pw : M.Pairwise fun x y => leX x.2 y.2 = true) : M.map Prod.snd = sortX (once (ks.map Prod.snd)) := by
 refine riseX_eq (((List.perm_ext_iff_of_nodup nd (once_nodup _)).mpr fun t => ?_).trans (sortX_perm _).symm) (List.pairwise_map.mpr pw) (sortX_rise _)
 rw [mem_once, (pm.map Prod.snd).mem_iff]
 refine ⟨fun h => ?_, fun h => ?_⟩
 · obtain ⟨x, hx, e⟩ := List.mem_map.mp h
   exact List.mem_map.mpr ⟨x, s1 x hx, e⟩
 · obtain ⟨x, hx, e⟩ := List.mem_map.mp h
   exact e ▸ s2 x hx
end
end Zt
namespace Zt
open PySem PySem.Spec PyProof.Rows L2
section
variable {W : Wd} {G : Stat} {S : Sc} {k : Nat} {h : Bool} {cc : CC} {X : Cx} {wx : WX}
theorem cfg_lv (W : Wd) (k : Nat) (h : Bool) : (W.cfg k h).lv = k := by cases k <;> rfl
theorem cfg_hot (W : Wd) (k : Nat) (h : Bool) : (W.cfg k h).hot = h := by cases k <;> rfl
theorem endF_of {σ : St} {ι : Io} {H : Hp} {Q : VK} {r : R Z} (e : EndG W wx σ ι H (DenZ W.K) Q r) : EndF W ι H Q (WE wx σ) r := by
 cases r with
 | ok z M => exact e
 | ex x M => exact e
 | bad => exact e
theorem fn_len (ok : WOk W G) {f : Nat} {y : Str} (hy : G.nm[f]? = some y) {h' : Bool} {zs : List Z} {M : Mem} (hb : (W.cfg k h).fn h' f zs M ≠ .bad) : zs.length = (W.ps f).length := by
 cases k with
 | zero => exact absurd rfl hb
 | succ k =>
   have hb : (match W.T[f]? with
     | some d => if zs.length = d.np then finB (evSs (lev W.T W.sub W.gv W.wf k h') d.body (startE d (zs.map .z)) M) else .bad
     | none => .bad) ≠ .bad := hb
   cases q : W.T[f]? with
   | none => rw [q] at hb; exact absurd rfl hb
   | some d =>
     rw [q] at hb
     dsimp only at hb
     split at hb
     · rename_i e
       rw [e]
       exact ok.np f y d hy q
     · exact absurd rfl hb
theorem nb_of {σ : St} {ι : Io} {H : Hp} {Q : VK} {r : R Z} (e : EndG W wx σ ι H (DenZ W.K) Q r) : r ≠ .bad := fun z => by rw [z] at e; exact e
theorem sp_of (ok : WOk W G) {f : Nat} {y : Str} (hy : G.nm[f]? = some y) {σ : St} {ι : Io} {H : Hp} {Q : VK} {vs : List V} {zs : List Z} {M : Mem} (m : MI W ι H M) (d : DenZL W.K ι H vs zs) (e : EndG W wx σ ι H (DenZ W.K) Q ((W.cfg k h).fn h f zs M)) :
   spF W k h f vs H Q (WE wx σ) := ⟨by rw [d.length]; exact fn_len ok hy (nb_of e), ι, M, zs, m, d, endF_of e⟩
theorem j_call (g : GX W G S k h cc X wx) {f : Nat} {x : Str} {y : Expr} {ys : List Expr} {r : Env → Mem → R (List Z)} {p pos : Pos} (hy : G.nm[f]? = some x) (hg : isGlob cc x = true) (hp : plainName x = true) (hr : PA X (y :: ys) (tDs W S wx r)) (hn : (y :: ys).all notStar = true) :
   PE X (.Call (.Name x p) (y :: ys) [] pos) (tD W S wx fun ρ M => (r ρ M).bind fun zs M1 => (W.cfg k h).fn h f zs M1) := by
 rw [List.all_cons, Bool.and_eq_true] at hn
 obtain ⟨h1, h2, _⟩ := plain_dbg hp
 obtain ⟨gm, gk, gb⟩ := g.ok.glob f x hy
 have main : PE X (.Call (.Name x p) (y :: ys) [] pos) (tCallS (spF W k h f) (WE wx) (tDs W S wx r)) := by
   cases h with
   | false =>
     have F := (g.calls k (Nat.le_refl k)).calm f x hy
     rw [← g.eP, ← g.eW, ← g.eK, ← g.eM, ← g.eB] at F
     exact pe_callS F (g.calm rfl).2 (g.gl hg) (by rw [g.eM]; exact gm) (by rw [g.eK]; exact gk) (by rw [g.eK]; exact gb) (fun σ => L2N.passAt g.takes σ) hr h1 (star_of hn.1) (plain_of hn.2)
   | true =>
     have F := (g.calls k (Nat.le_refl k)).hot f x hy
     rw [← g.eP, ← g.eW, ← g.eK, ← g.eM, ← g.eB] at F
     exact L2H.pe_callH F g.room (g.hot rfl) (g.gl hg) (by rw [g.eM]; exact gm) (by rw [g.eK]; exact gk) (by rw [g.eK]; exact gb) (fun σ => L2N.passAt g.takes σ) hr h1 (star_of hn.1) (plain_of hn.2)
 refine main.imp fun σ H Q hq => ?_
 obtain ⟨ι, ρ, M, rl, e⟩ := hq
 dsimp only at e
 exact ⟨ι, ρ, M, rl, e.step fun z M1 ι1 v1 H1 ex m d e1 => sp_of g.ok hy m d e1⟩
theorem j_call0 (g : GX W G S k h cc X wx) {f : Nat} {x : Str} {p pos : Pos} (hy : G.nm[f]? = some x) (hg : isGlob cc x = true) (hp : plainName x = true) :
   PE X (.Call (.Name x p) [] [] pos) (tD W S wx fun ρ M => (R.ok ([] : List Z) M).bind fun zs M1 => (W.cfg k h).fn h f zs M1) := by
 obtain ⟨h1, h2, _⟩ := plain_dbg hp
 obtain ⟨gm, gk, gb⟩ := g.ok.glob f x hy
 refine ⟨fun pins s σ H Q I hq => ?_⟩
 obtain ⟨ι, ρ, M, rl, e⟩ := hq
 have sp := sp_of g.ok hy rl.m .nil e
 refine wpAny_Call_Name_kw (ld_glob I (g.gl hg) (by rw [g.eM]; exact gm) ?_ h1)
 refine PySem.W.callWith_K0 I.kIn (by rw [g.eK]; exact gk) ?_
 cases h with
 | false =>
   have F := (g.calls k (Nat.le_refl k)).calm f x hy
   rw [← g.eP, ← g.eW, ← g.eK, ← g.eM, ← g.eB] at F
   exact run_fnS (us := []) F (g.calm rfl).2 (by rw [g.eK]; exact gb) (L2N.passAt g.takes σ) I .nil sp
 | true =>
   have F := (g.calls k (Nat.le_refl k)).hot f x hy
   rw [← g.eP, ← g.eW, ← g.eK, ← g.eM, ← g.eB] at F
   exact L2H.run_fnH (us := []) F g.room (g.hot rfl) (by rw [g.eK]; exact gb) (L2N.passAt g.takes σ) I .nil sp
theorem SR.slot {K : PySem.W.Frag} {ι : Io} {H : Hp} {σ : St} {ρ : Env} (s : SR K S ι H σ ρ) {i : Nat} {sl : Sl} (e : ρ[i]? = some sl) : SlD K S ι H σ[i]? sl := s.ix i sl e
theorem j_callV (g : GX W G S k h cc X wx) {i : Nat} {x : Str} {fs : List Nat} {y : Expr} {ys : List Expr} {r : Env → Mem → R (List Z)} {p pos : Pos} (hN : cc.N[i]? = some x) (hv : isVis cc x = true) (hp : plainName x = true) (hf : fs.all (fun f => (G.nm[f]?).isSome) = true) (hr : PA X (y :: ys) (tDs W S wx r)) (hn : (y :: ys).all notStar = true) :
   PE X (.Call (.Name x p) (y :: ys) [] pos) (tD W S wx fun ρ M => if h then .bad else match ρ[i]? with
     | some (.z (.f n)) => if fs.contains n then (r ρ M).bind fun zs M1 => (W.cfg k h).fn h n zs M1 else .bad
     | _ => .bad) := by
 rw [List.all_cons, Bool.and_eq_true] at hn
 obtain ⟨h1, h2, _⟩ := plain_dbg hp
 cases h with
 | true => exact j_bad fun ρ M => if_pos rfl
 | false =>
 refine ⟨fun pins s σ H Q I hq => ?_⟩
 obtain ⟨ι, ρ, M, rl, e⟩ := hq
 dsimp only at e
 rw [if_neg Bool.false_ne_true] at e
 split at e
 · rename_i n hs
   split at e
   · rename_i hcn
     obtain ⟨a, ha, dz⟩ := rl.s.slot hs
     cases dz with
     | @f _ a hfa =>
       have hy := List.all_eq_true.mp hf n (by simpa using hcn)
       obtain ⟨yn, hy⟩ := Option.isSome_iff_exists.mp hy
       obtain ⟨gm, gk, gb⟩ := g.ok.glob n yn hy
       have ea : W.fa n = a := by
         rw [rl.m.f] at hfa
         exact hfa
       subst ea
       have F := (g.calls k (Nat.le_refl k)).calm n yn hy
       rw [← g.eP, ← g.eW, ← g.eK, ← g.eM, ← g.eB] at F
       refine wpAny_Call_Name_kw (thn ((pe_var (pos := p) (i := i) (by rw [g.eN]; exact hN) (g.vis hv) h1 h2).run pins s σ H (fun v H1 => v = .ref (W.fa n) ∧ H1 = H) I ⟨.ref (W.fa n), ha, rfl, rfl⟩) fun u s1 ⟨v, H1, I1, r1, q1⟩ => ?_)
       obtain ⟨rfl, rfl⟩ := q1
       cases r1
       refine PySem.W.callWith_K (h₀ := X.base) I.ok.mod.kin (by rw [g.eK]; exact gk) (thn (hr.run pos pins s1 σ _ _ I1 ⟨ι, ρ, M, rl, e.step fun z M1 ι1 v1 H1 ex m d e1 => sp_of g.ok hy m d e1⟩) fun us s2 ⟨vs, H2, I2, rr, q⟩ => ⟨I2.kIn, ?_⟩) (star_of hn.1) (plain_of hn.2)
       exact run_fnS F (g.calm rfl).2 (by rw [g.eK]; exact gb) (L2N.passAt g.takes σ) I2 rr q
   · exact e.elim
 · exact e.elim
theorem boot_set' : bootBuiltins "set" = some (.type "set") := by decide +kernel
theorem j_sset (g : GX W G S k h cc X wx) {z : Expr} {f : Env → Mem → R Z} {p p2 q q2 : Pos} (hz : PE X z (tD W S wx f)) (hn : notStar z = true) (hg : isGlob cc ("sorted" : Str) = true) (hg2 : isGlob cc ("set" : Str) = true) :
   PE X (.Call (.Name ("sorted" : Str) p) [.Call (.Name ("set" : Str) q) [z] [] q2] [] p2) (tD W S wx fun ρ M => if h then .bad else (f ρ M).bind fun x M1 => match x with
     | .d (.list xs) => R.of ((ssetD xs).map fun ys => .d (.list ys)) M1
     | _ => .bad) := by
 cases h with
 | true => exact j_bad fun ρ M => if_pos rfl
 | false =>
   have hc := (g.calm rfl).1
   have hu : X.A.units + 64 < cLine := by have := g.units; omega
   refine (pe_callB (CallR.or (cr_sortX hc) (cr_sortW hc)) (g.gl hg) (g.blt (by decide +kernel)) (by decide +kernel) (pa_cons (pe_callTy (CallR.or (cr_setX hc) (cr_setW hc hu)) (g.gl hg2) (g.blt (by decide +kernel)) boot_set' (pa_cons hz pa_nil (star1 hn)) (he := star1 hn)) pa_nil)).imp fun σ H Q hq => ?_
   obtain ⟨ι, ρ, M, rl, e⟩ := hq
   dsimp only at e
   rw [if_neg Bool.false_ne_true] at e
   refine ⟨ι, ρ, M, rl, e.step fun x M1 ι1 v1 H1 ex m d e1 => ?_⟩
   split at e1
   · rename_i xs
     cases d with
     | d d =>
       obtain ⟨a, vs, rfl, h1, sq, l⟩ := d.list_inv
       cases q1 : strsOf xs with
       | some ss =>
         rw [show ssetD xs = if ss.length < 64 then some ((sortS (once ss)).map .str) else none by unfold ssetD; rw [q1]] at e1
         split at e1
         · rename_i few
           obtain ⟨ev, _⟩ := l.ofStrs q1
           subst ev
           refine .inl ⟨a, ss, rfl, by rw [g.eK]; exact sq, few, fun a2 ks ha2 hm => .inl ⟨a2, ks, rfl, upd_same, fun ys p nd pm so hpn => ?_⟩⟩
           have e3 : ys = sortS (once ss) := riseS_eq ((pm.trans ((List.perm_ext_iff_of_nodup nd (once_nodup _)).mpr fun x => by rw [mem_once]; exact hm x)).trans (sortS_perm _).symm) (riseS_of so) (sortS_rise _)
           rw [e3]
           exact e1 ι1 _ _ ((Ext.new ha2).trans (Ext.new hpn)) ((m.new ha2).new hpn) (.d (.newL (m.new ha2).has hpn (DenL.strs _)))
         · exact e1.elim
       | none =>
         cases q2 : txsOf xs with
         | none => rw [show ssetD xs = none by unfold ssetD; rw [q1, q2]] at e1; exact e1.elim
         | some tss =>
           rw [show ssetD xs = if tss.length < 64 && tss.all (fun t => !t.isEmpty) then some ((sortX (once tss)).map fun t => .tuple (t.map .str)) else none by unfold ssetD; rw [q1, q2]] at e1
           split at e1
           · rename_i cd
             rw [Bool.and_eq_true, decide_eq_true_eq, List.all_eq_true] at cd
             obtain ⟨ks, rfl, k2, k3⟩ := txs_rows l q2
             have kne : ∀ x ∈ ks, x.2 ≠ [] := fun x hx c => by
               have := cd.2 x.2 (k2 ▸ List.mem_map.mpr ⟨x, hx, rfl⟩)
               rw [c] at this
               exact absurd this (by decide)
             have kl : ks.length < 64 := by have := cd.1; rwa [← k2, List.length_map] at this
             refine .inr ⟨a, ks, rfl, by rw [g.eK]; exact sq, fun x hx => by rw [g.eK]; exact (k3 x hx).1, kl, fun a2 L ha2 s1 s2 => .inr ⟨a2, L, rfl, upd_same, fun x hx => ⟨by rw [g.eK]; exact ((k3 x (s1 x hx)).2.mono (Ext.new ha2)).sqX, kne x (s1 x hx)⟩, fun M2 p pm nd pw hpn => ?_⟩⟩
             have e3 := rows_sorted s1 s2 pm nd pw
             rw [k2] at e3
             refine e1 ι1 _ _ ((Ext.new ha2).trans (Ext.new hpn)) ((m.new ha2).new hpn) (.d (.newL (m.new ha2).has hpn ?_))
             rw [← e3]
             exact rows_den M2 fun x hx => (k3 x (s1 x (pm.mem_iff.mp hx))).2.mono (Ext.new ha2)
           · exact e1.elim
   · exact e1.elim
theorem scr_sq {K : PySem.W.Frag} {ι : Io} {H : Hp} {a : Addr} {xs : List V} (h : Still ι H a (.lst xs) ∨ KL K a xs) : SqL K H a xs := h.imp (fun z => z.2) id
theorem j_sln (g : GX W G S k h cc X wx) {i : Nat} {u : Str} {p q pos : Pos} (hg : isGlob cc ("len" : Str) = true) (hN : cc.N[i]? = some u) (hv : isVis cc u = true) (hp : plainName u = true) :
   PE X (.Call (.Name ("len" : Str) p) [.Name u q] [] pos) (tD W S wx fun ρ M => match ρ[i]? with
     | some (.scr ns) => .ok (.d (.int ns.length)) M
     | _ => .bad) := by
 obtain ⟨h1, h2, _⟩ := plain_dbg hp
 refine (pe_callB call_len (g.gl hg) (g.blt (by decide +kernel)) boot_len (pa_cons (pe_var (i := i) (pos := q) (by rw [g.eN]; exact hN) (g.vis hv) h1 h2) pa_nil)).imp fun σ H Q hq => ?_
 obtain ⟨ι, ρ, M, rl, e⟩ := hq
 dsimp only at e
 split at e
 · rename_i ns hs
   obtain ⟨a, ha, hs⟩ := rl.s.slot hs
   refine ⟨.ref a, ha, ?_⟩
   refine ⟨_, (ns.map V.int).length, rfl, .inl ⟨_, by rw [g.eK]; exact scr_sq hs, rfl⟩, ?_⟩
   rw [List.length_map]
   exact EndG.now e rl.m (.d (.int _))
 · exact e.elim
theorem j_six (g : GX W G S k h cc X wx) {i : Nat} {u : Str} {y : Expr} {f : Env → Mem → R Z} {q pos : Pos} (hN : cc.N[i]? = some u) (hv : isVis cc u = true) (hp : plainName u = true) (hy : PE X y (tD W S wx f)) (hs : notSlice y = true) :
   PE X (.Subscript (.Name u q) y pos) (tD W S wx fun ρ M => match ρ[i]? with
     | some (.scr ns) => (f ρ M).bind fun y M1 => match y with
       | .d (.int j) => R.of ((L2.atI ns j).map fun n => .d (.int n)) M1
       | _ => .bad
     | _ => .bad) := by
 obtain ⟨h1, h2, _⟩ := plain_dbg hp
 refine (pe_ix ix_list (pe_var (i := i) (pos := q) (by rw [g.eN]; exact hN) (g.vis hv) h1 h2) hy (plain_ix hs)).imp fun σ H Q hq => ?_
 obtain ⟨ι, ρ, M, rl, e⟩ := hq
 dsimp only at e
 split at e
 · rename_i ns hsl
   obtain ⟨a, ha, hh⟩ := rl.s.slot hsl
   refine ⟨.ref a, ha, ι, ρ, M, rl, e.step fun z M1 ι1 v1 H1 ex m d e1 => ?_⟩
   split at e1
   · rename_i j
     obtain ⟨n, hn, e1⟩ := EndG.ofo e1
     obtain ⟨n0, hn0, e0⟩ := Option.map_eq_some_iff.mp hn
     subst e0
     cases d with
     | d d =>
       cases d
       have hh : Still ι1 H1 a (.lst (ns.map V.int)) ∨ KL W.K a (ns.map V.int) := hh.imp (fun z => z.mono ex nt_lst) id
       refine ⟨a, ns.map V.int, j, .int n0, rfl, rfl, by rw [g.eK]; exact scr_sq hh, ?_, EndG.now e1 m (.d (.int _))⟩
       unfold atI at hn0 ⊢
       rw [List.length_map]
       cases q : ixN ns.length j with
       | none => rw [q] at hn0; cases hn0
       | some t =>
         rw [q] at hn0
         exact map_get hn0
   · exact e1.elim
 · exact e.elim
theorem fnW_len (ok : WOk W G) {f : Nat} {y : Str} (hy : G.nm[f]? = some y) {h' : Bool} {sl : Sl} {zs : List Z} {M : Mem} (hb : (W.cfg k h).fnW h' f sl zs M ≠ .bad) : zs.length + 1 = (W.ps f).length := by
 cases k with
 | zero => exact absurd rfl hb
 | succ k =>
   have hb : (match W.T[f]? with
     | some d => if zs.length + 1 = d.np then finB (evSs (lev W.T W.sub W.gv W.wf k h') d.body (startE d (sl :: zs.map .z)) M) else .bad
     | none => .bad) ≠ .bad := hb
   cases q : W.T[f]? with
   | none => rw [q] at hb; exact absurd rfl hb
   | some d =>
     rw [q] at hb
     dsimp only at hb
     split at hb
     · rename_i e
       rw [e]
       exact ok.np f y d hy q
     · exact absurd rfl hb
theorem j_callW (g : GX W G S k h cc X wx) {f i : Nat} {x u : Str} {ys : List Expr} {r : Env → Mem → R (List Z)} {p q pos : Pos} (hy : G.nm[f]? = some x) (hg : isGlob cc x = true) (hp : plainName x = true) (hN : cc.N[i]? = some u) (hv : isVis cc u = true) (hu : plainName u = true)
   (hr : PA X ys (tDs W S wx r)) (hn : ys.all notStar = true) :
   PE X (.Call (.Name x p) (.Name u q :: ys) [] pos) (tD W S wx fun ρ M => match ρ[i]? with
     | some (.scr ns) => (r ρ M).bind fun zs M1 => (W.cfg k h).fnW h f (.scr ns) zs M1
     | _ => .bad) := by
 obtain ⟨h1, h2, _⟩ := plain_dbg hp
 obtain ⟨u1, u2, _⟩ := plain_dbg hu
 obtain ⟨gm, gk, gb⟩ := g.ok.glob f x hy
 have hx : PA X (.Name u q :: ys) (tCons (tVar i) (tDs W S wx r)) := pa_cons (pe_var (i := i) (pos := q) (by rw [g.eN]; exact hN) (g.vis hv) u1 u2) hr rfl
 have main : PE X (.Call (.Name x p) (.Name u q :: ys) [] pos) (tCallS (spW W k h f) (WE wx) (tCons (tVar i) (tDs W S wx r))) := by
   cases h with
   | false =>
     have F := (g.calls k (Nat.le_refl k)).calmW f x hy
     rw [← g.eP, ← g.eW, ← g.eK, ← g.eM, ← g.eB] at F
     exact pe_callS F (g.calm rfl).2 (g.gl hg) (by rw [g.eM]; exact gm) (by rw [g.eK]; exact gk) (by rw [g.eK]; exact gb) (fun σ => L2N.passAt g.takes σ) hx h1 rfl (plain_of hn)
   | true =>
     have F := (g.calls k (Nat.le_refl k)).hotW f x hy
     rw [← g.eP, ← g.eW, ← g.eK, ← g.eM, ← g.eB] at F
     exact L2H.pe_callH F g.room (g.hot rfl) (g.gl hg) (by rw [g.eM]; exact gm) (by rw [g.eK]; exact gk) (by rw [g.eK]; exact gb) (fun σ => L2N.passAt g.takes σ) hx h1 rfl (plain_of hn)
 refine main.imp fun σ H Q hq => ?_
 obtain ⟨ι, ρ, M, rl, e⟩ := hq
 dsimp only at e
 split at e
 · rename_i ns hs
   obtain ⟨a, ha, hh⟩ := rl.s.slot hs
   refine ⟨.ref a, ha, ι, ρ, M, rl, e.step fun zs M1 ι1 vs H1 ex m d e1 => ?_⟩
   have hh : Still ι1 H1 a (.lst (ns.map V.int)) ∨ KL W.K a (ns.map V.int) := hh.imp (fun z => z.mono ex nt_lst) id
   exact ⟨by rw [List.length_cons, d.length]; exact fnW_len g.ok hy (nb_of e1), ι1, M1, .ref a, vs, ns, zs, rfl, m, ⟨a, rfl, hh⟩, d, endF_of e1⟩
 · exact e.elim
theorem j_callX (g : GX W G S k h cc X wx) {f i : Nat} {x u : Str} {p q pos : Pos} (hc : cc.cl = true) (hy : G.nm[f]? = some x) (hg : isGlob cc x = true) (hp : plainName x = true) (hN : cc.N[i]? = some u) (hv : isVis cc u = true) (hu : plainName u = true) :
   PE X (.Call (.Name x p) [.Name u q] [] pos) (tD W S wx fun ρ M => match ρ[i]? with
     | some (.exc e) => if h then (W.cfg k h).fnW true f (.exc e) [] M else .bad
     | _ => .bad) := by
 obtain ⟨h1, h2, _⟩ := plain_dbg hp
 obtain ⟨u1, u2, _⟩ := plain_dbg hu
 obtain ⟨gm, gk, gb⟩ := g.ok.glob f x hy
 have hx : PA X [.Name u q] (tCons (tVar i) tNil) := pa_cons (pe_var (i := i) (pos := q) (by rw [g.eN]; exact hN) (g.vis hv) u1 u2) pa_nil rfl
 refine ⟨fun pins s σ H Q I hq => ?_⟩
 obtain ⟨ι, ρ, M, rl, e⟩ := hq
 dsimp only at e
 split at e
 · rename_i ex hs
   cases h with
   | false =>
     rw [if_neg Bool.false_ne_true] at e
     exact e.elim
   | true =>
     obtain ⟨a, dx, ha, hXA, hF⟩ := rl.s.slot hs
     obtain ⟨c, fs⟩ := ex
     rw [if_pos rfl] at e
     refine wpAny_Call_Name_kw (ld_glob I (g.gl hg) (by rw [g.eM]; exact gm) ?_ h1)
     refine PySem.W.callWith_K (h₀ := X.base) I.ok.mod.kin (by rw [g.eK]; exact gk) (thn (hx.run pos pins s σ H (fun vs H1 => vs = [V.ref a] ∧ H1 = H) I ⟨.ref a, ha, rfl, rfl⟩) fun us s1 hh => ?_) rfl rfl
     obtain ⟨vs, H1, I1, r1, ev, eH⟩ := hh
     subst ev
     rw [eH] at I1
     refine ⟨I1.kIn, ?_⟩
     cases r1 with
     | cons ru rn =>
       cases rn
       cases ru
       exact g.xc hc rfl f x a c dx fs hy hXA pins s1 σ H Q ι M I1 rl.m hF e
 · exact e.elim
end
end Zt
set_option maxHeartbeats 4000000
namespace Zt
open PySem PySem.Spec PyProof.Rows L2
section
variable {W : Wd} {G : Stat} {S : Sc} {k : Nat} {h : Bool} {cc : CC} {X : Cx} {wx : WX}
theorem j_clo (g : GX W G S k h cc X wx) {i : Nat} {y : Str} {y0 : Expr} {ys : List Expr} {r : Env → Mem → R (List Z)} {p1 p2 : Pos} (hc : cc.cl = true) (hN : cc.N[i]? = some y) (hv : isVis cc y = true) (hp : plainName y = true) (hr : PA X (y0 :: ys) (tDs W S wx r)) (hn : (y0 :: ys).all notStar = true) :
   PE X (.Call (.Name y p1) (y0 :: ys) [] p2) (tD W S wx fun ρ M => if h then .bad else match ρ[i]? with
     | some (.clo ps body cap) => (r ρ M).bind fun zs M1 => (W.cfg k h).clo ps body cap zs M1
     | _ => .bad) := by
 cases h with
 | true => exact j_bad fun ρ M => if_pos rfl
 | false =>
   obtain ⟨y1, y2, _⟩ := plain_dbg hp
   refine ⟨fun pins s σ H Q I hq => ?_⟩
   obtain ⟨ι, ρ, M, rl, e⟩ := hq
   dsimp only at e
   rw [if_neg Bool.false_ne_true] at e
   split at e
   case h_2 => exact e.elim
   rename_i ps body cap hs
   obtain ⟨f, σc, e1, e2, e3, e4⟩ := rl.s.slot hs
   have xl := g.xl hc rfl X.pn X.xe wx g.takes
   refine wpAny_Call_Name_kw (thn ((pe_var (pos := p1) (i := i) (by rw [g.eN]; exact hN) (g.vis hv) y1 y2).run pins s σ H (fun v H1 => v = .ref f ∧ H1 = H) I ⟨.ref f, e1, rfl, rfl⟩) fun u s1 ⟨v, H1, I1, r1, q1⟩ => ?_)
   obtain ⟨rfl, rfl⟩ := q1
   cases r1
   have X0 := xl pins s1 σ _ I1 f ps body σc ι e3
   rw [List.all_cons, Bool.and_eq_true] at hn
   refine PySem.W.callWith_F (first := []) X0.1 (thn (hr.run p2 pins s1 σ H1 (fun vs H2 => ∃ ι1 zs M1, Ext ι H1 ι1 H2 ∧ MI W ι1 H2 M1 ∧ DenZL W.K ι1 H2 vs zs ∧ EndG W wx σ ι1 H2 (DenZ W.K) Q ((W.cfg k false).clo ps body cap zs M1)) I1 ⟨ι, ρ, M, rl, e.step fun z M1 ι1 v1 H1 ex m d e1 => ⟨ι1, z, M1, ex, m, d, e1⟩⟩) fun us s2 ⟨vs, H2, I2, rr, q⟩ => ?_) (star_of hn.1) (plain_of hn.2)
   obtain ⟨ι1, zs, M1, ex, m, d, e5⟩ := q
   have X1 := xl pins s2 σ H2 I2 f ps body σc ι1 (S.mono e3 ex)
   exact ⟨X1.1, X1.2 cap M1 us vs zs Q (e4.mono ex) e2 m d rr e5⟩
theorem j_clo0 (g : GX W G S k h cc X wx) {i : Nat} {y : Str} {p1 p2 : Pos} (hc : cc.cl = true) (hN : cc.N[i]? = some y) (hv : isVis cc y = true) (hp : plainName y = true) :
   PE X (.Call (.Name y p1) [] [] p2) (tD W S wx fun ρ M => if h then .bad else match ρ[i]? with
     | some (.clo ps body cap) => (R.ok ([] : List Z) M).bind fun zs M1 => (W.cfg k h).clo ps body cap zs M1
     | _ => .bad) := by
 cases h with
 | true => exact j_bad fun ρ M => if_pos rfl
 | false =>
   obtain ⟨y1, y2, _⟩ := plain_dbg hp
   refine ⟨fun pins s σ H Q I hq => ?_⟩
   obtain ⟨ι, ρ, M, rl, e⟩ := hq
   dsimp only at e
   rw [if_neg Bool.false_ne_true] at e
   split at e
   case h_2 => exact e.elim
   rename_i ps body cap hs
   obtain ⟨f, σc, e1, e2, e3, e4⟩ := rl.s.slot hs
   have xl := g.xl hc rfl X.pn X.xe wx g.takes
   refine wpAny_Call_Name_kw (thn ((pe_var (pos := p1) (i := i) (by rw [g.eN]; exact hN) (g.vis hv) y1 y2).run pins s σ H (fun v H1 => v = .ref f ∧ H1 = H) I ⟨.ref f, e1, rfl, rfl⟩) fun u s1 ⟨v, H1, I1, r1, q1⟩ => ?_)
   obtain ⟨rfl, rfl⟩ := q1
   cases r1
   have X0 := xl pins s1 σ _ I1 f ps body σc ι e3
   exact PySem.W.callWith_F0 (first := []) X0.1 (X0.2 cap M [] [] [] Q e4 e2 rl.m .nil .nil e)
theorem isi_err {X : Cx} (eK : X.K = W.K) (ok : WOk W G) {a : Addr} {c : Nat} {oe : Obj} {cv : Value} {t : Bool} (hz : Zc (W.cv c) none oe) (hf : ∃ vs, oe.data = .fields vs) (hp : (a, oe) ∈ X.pn) (hk : PySem.W.kitOne W.K (W.cv c) cv = some t) {pins : List (Addr × Obj)} {s : Shared} {σ : L2.St} {H : Hp} {Q : VK} (I : Inv X pins σ H s) (q : Q (.bl t) H) :
   wpAny (model X.prog X.w) X.A (call (.builtin "isinstance") [.ref a, cv]) (EP X pins σ Q) X.xe s := by
 obtain ⟨D, hD, C⟩ := ok.exc c
 rw [hD] at hk hz
 obtain ⟨vs, hv⟩ := hf
 obtain ⟨hget, _⟩ := I.pin (a, oe) (List.mem_append_left _ hp)
 have J : PySem.W.InstAt s.heap a oe D none := by
   obtain ⟨oc, od, oda, osl⟩ := oe
   obtain ⟨z1, z2⟩ := hz
   dsimp only at z1 z2 hv
   subst z1 z2 hv
   exact ⟨hget, rfl, rfl, trivial⟩
 rw [← eK] at hk C
 exact PySem.W.kia_one (PySem.W.handS_kitx_exc C.hg C.hk C.hs C.hd C.ha C.hn C.ht C.hm) I.kIn J hk (fun z => nomatch z) fun tk => ⟨.bl t, H, I.kept (t' := tk) fun _ _ z => z, rfl, q⟩
def ErV (H : Hp) (a D : Addr) : Prop := (∃ t0, H a = some (exT a D t0)) ∨ ∃ dx fs, H a = some (exo a D (some dx)) ∧ H dx = some (exd dx fs)
theorem den_err {K : PySem.W.Frag} {ι : Io} {H : Hp} {v : V} {d : D} {c : Nat} (h : Den K ι H v d) (e : clsD d = some c) : ∃ a D, v = .ref a ∧ ι.fa.cv c = .ref D ∧ ErV H a D := by
 cases h with
 | er0 h1 h2 h3 =>
   cases e
   exact ⟨_, _, rfl, h3.1, .inl ⟨_, h1.2⟩⟩
 | er1 h1 h2 h3 _ =>
   cases e
   exact ⟨_, _, rfl, h3, .inr ⟨_, _, h1.2, h2.2⟩⟩
 | _ => cases e
theorem isi_val {X : Cx} {a D : Addr} {cv : Value} {t : Bool} (C : ExcC X.K D) {pins : List (Addr × Obj)} {s : Shared} {σ : L2.St} {H : Hp} {Q : VK} (hv : ErV H a D) (hk : PySem.W.kitOne X.K (.ref D) cv = some t) (I : Inv X pins σ H s) (q : Q (.bl t) H) :
   wpAny (model X.prog X.w) X.A (call (.builtin "isinstance") [.ref a, cv]) (EP X pins σ Q) X.xe s := by
 rcases hv with ⟨t0, ha⟩ | ⟨dx, fs, ha, hd⟩
 · obtain ⟨he, _, _⟩ := I.hok a _ ha
   have J : PySem.W.InstAt s.heap a { cls := .ref D, dict := none, data := .fields #[.ref t0, .none, .none, .none, .bool false, .none] } D none := ⟨he, rfl, rfl, trivial⟩
   exact PySem.W.kia_one (PySem.W.handS_kitx_exc C.hg C.hk C.hs C.hd C.ha C.hn C.ht C.hm) I.kIn J hk (fun z => nomatch z) fun tk => ⟨.bl t, H, I.kept (t' := tk) fun _ _ z => z, rfl, q⟩
 · obtain ⟨t1, he⟩ := exo_at I.hok ha
   obtain ⟨mA, hns, rel⟩ := exd_at I.hok hd
   obtain ⟨od, hod, _⟩ := lookIn_ns hns
   have J : PySem.W.InstAt s.heap a { cls := .ref D, dict := some dx, data := .fields #[.ref t1, .none, .none, .none, .bool false, .none] } D (some od) := ⟨he, rfl, rfl, hod⟩
   obtain ⟨cdD, hcD, _⟩ := PySem.W.any_some C.hd
   exact PySem.W.kia_one (PySem.W.kitx_exc (by rw [hcD]; rfl) C.hg C.hk C.hs C.ha C.hn C.ht C.hm) I.kIn J hk (fun z => nomatch z) fun tk => ⟨.bl t, H, I.kept (t' := tk) fun _ _ z => z, rfl, q⟩
theorem j_isx (g : GX W G S k h cc X wx) {i c : Nat} {u d : Str} {p q r pos : Pos} (hc : cc.cl = true) (hg : isGlob cc ("isinstance" : Str) = true) (hN : cc.N[i]? = some u) (hv : isVis cc u = true) (hu : plainName u = true) (hd : G.cn[c]? = some d) (hgd : isGlob cc d = true) (hpd : plainName d = true) :
   PE X (.Call (.Name ("isinstance" : Str) p) [.Name u q, .Name d r] [] pos) (tD W S wx fun ρ M => match ρ[i]? with
     | some (.exc e) => if e.fs.isEmpty then .ok (boolZ (W.sub e.c c)) M else .bad
     | some (.z (.d x)) => match clsD x with
       | some c0 => .ok (boolZ (W.sub c0 c)) M
       | none => .bad
     | _ => .bad) := by
 obtain ⟨u1, u2, _⟩ := plain_dbg hu
 obtain ⟨d1, d2, _⟩ := plain_dbg hpd
 obtain ⟨C, c1, c2, _⟩ := g.ok.cls c d hd
 have pd : PE X (.Name d r) (tC (.ref C)) := pe_glob (g.gl hgd) (by rw [g.eM]; exact c1) rfl d1
 refine (pe_callB (r := fun xs H Q => ∃ (a : Addr) (c0 : Nat), xs = [.ref a, .ref C] ∧ (S.XA a c0 none ∨ ∃ D, W.cv c0 = .ref D ∧ ErV H a D) ∧ Q (.bl (W.sub c0 c)) H) (fun pins s σ H xs us Q I rv hh => ?_) (g.gl hg) (g.blt (by decide +kernel)) boot_isi (pa_cons (pe_var (i := i) (pos := q) (by rw [g.eN]; exact hN) (g.vis hv) u1 u2) (pa_cons pd pa_nil))).imp fun σ H Q hq => ?_
 · obtain ⟨a, c0, rfl, hx, hQ⟩ := hh
   cases rv with
   | cons r1 rr =>
     cases rr with
     | cons r2 rr =>
       cases rr
       cases r1
       cases r2
       have hk := g.ok.kit c0 c d hd
       rcases hx with hx | ⟨D, hD, hV⟩
       · obtain ⟨oe, pn, hz, hf⟩ := g.xp hc a c0 none hx
         have := isi_err g.eK g.ok hz hf pn hk I hQ
         rw [c2] at this
         exact this
       · obtain ⟨D', hD', EC⟩ := g.ok.exc c0
         rw [hD] at hD' hk
         cases hD'
         rw [c2] at hk
         exact isi_val (by rw [g.eK]; exact EC) hV (by rw [g.eK]; exact hk) I hQ
 · obtain ⟨ι, ρ, M, rl, e⟩ := hq
   dsimp only at e
   split at e
   · rename_i ex hs
     obtain ⟨a, dx, ha, hXA, hF⟩ := rl.s.slot hs
     split at e
     case isFalse => exact e.elim
     rename_i hfs
     have hd0 := hF.1 (by simpa using hfs)
     rw [hd0] at hXA
     exact ⟨.ref a, ha, a, ex.c, rfl, .inl hXA, EndG.now e rl.m (.d (.bl _))⟩
   · rename_i x hs
     obtain ⟨v, ha, hv⟩ := rl.s.slot hs
     cases hv with
     | d hv =>
       cases hcl : clsD x with
       | none => rw [hcl] at e; exact e.elim
       | some c0 =>
         rw [hcl] at e
         obtain ⟨a, D, rfl, hD, hE⟩ := den_err hv hcl
         rw [rl.m.f] at hD
         exact ⟨.ref a, ha, a, c0, rfl, .inr ⟨D, hD, hE⟩, EndG.now e rl.m (.d (.bl _))⟩
   · exact e.elim
theorem j_isv (g : GX W G S k h cc X wx) {i : Nat} {u : Str} {p q r pos : Pos} (hc : cc.cl = true) (hg : isGlob cc ("isinstance" : Str) = true) (hN : cc.N[i]? = some u) (hv : isVis cc u = true) (hu : plainName u = true) (hgd : isGlob cc ("ValueError" : Str) = true) :
   PE X (.Call (.Name ("isinstance" : Str) p) [.Name u q, .Name ("ValueError" : Str) r] [] pos) (tD W S wx fun ρ M => match ρ[i]? with
     | some (.exc e) => if e.fs.isEmpty then .ok (boolZ (W.sub e.c 1000)) M else .bad
     | some (.z (.d x)) => match clsD x with
       | some c0 => .ok (boolZ (W.sub c0 1000)) M
       | none => .bad
     | _ => .bad) := by
 obtain ⟨u1, u2, _⟩ := plain_dbg hu
 have pd : PE X (.Name ("ValueError" : Str) r) (tC (.ty "ValueError")) := pe_bltn (g.gl hgd) (g.blt (by decide +kernel)) (by decide +kernel) rfl (by decide +kernel) (by decide +kernel)
 refine (pe_callB (r := fun xs H Q => ∃ (a : Addr) (c0 : Nat), xs = [.ref a, .ty "ValueError"] ∧ (S.XA a c0 none ∨ ∃ D, W.cv c0 = .ref D ∧ ErV H a D) ∧ Q (.bl (W.sub c0 1000)) H) (fun pins s σ H xs us Q I rv hh => ?_) (g.gl hg) (g.blt (by decide +kernel)) boot_isi (pa_cons (pe_var (i := i) (pos := q) (by rw [g.eN]; exact hN) (g.vis hv) u1 u2) (pa_cons pd pa_nil))).imp fun σ H Q hq => ?_
 · obtain ⟨a, c0, rfl, hx, hQ⟩ := hh
   cases rv with
   | cons r1 rr =>
     cases rr with
     | cons r2 rr =>
       cases rr
       cases r1
       cases r2
       have hk := g.ok.kitV c0
       rcases hx with hx | ⟨D, hD, hV⟩
       · obtain ⟨oe, pn, hz, hf⟩ := g.xp hc a c0 none hx
         exact isi_err g.eK g.ok hz hf pn hk I hQ
       · obtain ⟨D', hD', EC⟩ := g.ok.exc c0
         rw [hD] at hD' hk
         cases hD'
         exact isi_val (by rw [g.eK]; exact EC) hV (by rw [g.eK]; exact hk) I hQ
 · obtain ⟨ι, ρ, M, rl, e⟩ := hq
   dsimp only at e
   split at e
   · rename_i ex hs
     obtain ⟨a, dx, ha, hXA, hF⟩ := rl.s.slot hs
     split at e
     case isFalse => exact e.elim
     rename_i hfs
     have hd0 := hF.1 (by simpa using hfs)
     rw [hd0] at hXA
     exact ⟨.ref a, ha, a, ex.c, rfl, .inl hXA, EndG.now e rl.m (.d (.bl _))⟩
   · rename_i x hs
     obtain ⟨v, ha, hv⟩ := rl.s.slot hs
     cases hv with
     | d hv =>
       cases hcl : clsD x with
       | none => rw [hcl] at e; exact e.elim
       | some c0 =>
         rw [hcl] at e
         obtain ⟨a, D, rfl, hD, hE⟩ := den_err hv hcl
         rw [rl.m.f] at hD
         exact ⟨.ref a, ha, a, c0, rfl, .inr ⟨D, hD, hE⟩, EndG.now e rl.m (.d (.bl _))⟩
   · exact e.elim
theorem j_xat (g : GX W G S k h cc X wx) {i : Nat} {u f : Str} {q pos : Pos} (hc : cc.cl = true) (hN : cc.N[i]? = some u) (hv : isVis cc u = true) (hu : plainName u = true) (hf : some f ∈ G.fl) :
   PE X (.Attribute (.Name u q) f pos) (tD W S wx fun ρ M => match ρ[i]? with
     | some (.exc e) => R.of ((e.fs.lookup f).map .d) M
     | _ => .bad) := by
 obtain ⟨u1, u2, _⟩ := plain_dbg hu
 have pu : PE X (.Name u q) (tVar i) := pe_var (i := i) (pos := q) (by rw [g.eN]; exact hN) (g.vis hv) u1 u2
 refine ⟨fun pins s σ H Q I hq => ?_⟩
 obtain ⟨ι, ρ, M, rl, e⟩ := hq
 dsimp only at e
 split at e
 case h_2 => exact e.elim
 rename_i ex hs
 obtain ⟨a, dx, ha, hXA, hF⟩ := rl.s.slot hs
 cases hl : ex.fs.lookup f with
 | none =>
   rw [hl] at e
   exact e.elim
 | some d =>
   rw [hl] at e
   obtain ⟨dd, xs, v, rfl, h2, h3, h4, h5⟩ := hF.2 f d hl
   obtain ⟨oe, pn, hz, hfv⟩ := g.xp hc a ex.c (some dd) hXA
   obtain ⟨C, hD, hno⟩ := g.ok.nof _ hf f rfl ex.c
   obtain ⟨D, hD2, EC⟩ := g.ok.exc ex.c
   rw [hD] at hD2 hz
   cases hD2
   obtain ⟨vs, hvs⟩ := hfv
   refine attr_of rfl (thn (pu.run pins s σ H (fun x H1 => x = V.ref a ∧ H1 = H) I ⟨.ref a, ha, rfl, rfl⟩) fun w s1 hh => ?_)
   obtain ⟨x, H1, I1, rx, ex1, eH⟩ := hh
   subst ex1 eH
   obtain rfl : w = Value.ref a := rx
   obtain ⟨hget, _⟩ := I1.pin (a, oe) (List.mem_append_left _ pn)
   have hx : ObjOk X.prog X.w H1 s1.heap dd (.xd xs) := I1.hok dd _ h3
   obtain ⟨mA, hns, hr⟩ := hx
   obtain ⟨od, ho, hlk⟩ := lookIn_ns hns
   obtain ⟨z, hz2, rz⟩ := RelO.some_of (v := v) (o := mA f) (by rw [← h4]; exact hr f)
   have J : PySem.W.InstAt s1.heap a oe C (some od) := ⟨hget, hz.1, by unfold PySem.W.notCls; rw [hvs] <;> rfl, by rw [hz.2]; exact ho⟩
   rw [← g.eK] at EC hno
   exact HandSPX.exc_get I1.kIn J EC.hg EC.hk EC.hs (PySem.W.findObj_own EC.hd hno rfl (by rw [hlk, hz2])) (handed_of rz) ⟨v, H1, I1.tok _, rz, EndG.now e rl.m (.d h5)⟩
theorem par_parts {N : List Str} {ps : List Nat} {p : Arguments} (h : parsB N ps p = true) : p.posonlyargs = [] ∧ p.vararg = none ∧ p.kwonlyargs = [] ∧ p.kw_defaults = [] ∧ p.kwarg = none ∧ p.defaults = [] ∧ ((ps = [] ∧ p.args = []) ∨ ∃ i x q, ps = [i] ∧ p.args = [⟨x, none, q⟩] ∧ N[i]? = some x) := by
 unfold parsB at h
 simp only [Bool.and_eq_true, List.isEmpty_iff, Option.isNone_iff_eq_none] at h
 obtain ⟨⟨⟨⟨⟨⟨h1, h2⟩, h3⟩, h4⟩, h5⟩, h6⟩, h7⟩ := h
 refine ⟨h1, h2, h3, h4, h5, h6, ?_⟩
 split at h7
 · rename_i e1
   exact .inl ⟨rfl, e1⟩
 · rename_i i x q e1
   exact .inr ⟨i, x, q, rfl, e1, of_decide_eq_true h7⟩
 · cases h7
theorem par_def {N : List Str} {ps : List Nat} {p : Arguments} {env : PySem.Env} (hp : parsB N ps p = true) : defaultsOf p env = ([], []) := by
 obtain ⟨h1, h2, h3, h4, h5, h6, _⟩ := par_parts hp
 obtain ⟨a, b, c, d, e, f, g⟩ := p
 dsimp only at h4 h6
 subst h4 h6
 rfl
theorem bind_one {x : Str} {qq : Pos} {q : Str} {body : Expr} {scope : Scope} {cl : List (Str × Addr)} {pm cv ctv u : Value} : bindArgs (PySem.W.kla_fn "<lambda>" q ⟨[], [⟨x, none, qq⟩], none, [], [], none, []⟩ body scope cl pm cv ctv) ⟨[u], []⟩ = pure [(x, u)] := by
 have e : ([(x, u)] : List (Str × Value)).lookup x = some u := by simp [List.lookup]
 unfold bindArgs
 simp only [PySem.W.kla_fn, List.map_nil, List.map_cons, List.nil_append, List.zip_cons_cons, List.zip_nil_left, List.length_cons, List.length_nil]
 have s1 : (seqItems? Value.none : Sem _) = pure none := rfl
 simp [s1, e]
theorem par_bind {N : List Str} {ps : List Nat} {p : Arguments} (hp : parsB N ps p = true) {q : Str} {body : Expr} {scope : Scope} {cl : List (Str × Addr)} {pm cv ctv : Value} {us : List Value} (hl : us.length = ps.length) : bindArgs (PySem.W.kla_fn "<lambda>" q p body scope cl pm cv ctv) ⟨us, []⟩ = pure ((p.args.map (·.arg)).zip us) := by
 obtain ⟨h1, h2, h3, h4, h5, h6, h7⟩ := par_parts hp
 obtain ⟨a, b, c, d, e, f, g⟩ := p
 dsimp only at h1 h2 h3 h4 h5 h6 h7
 subst h1 h2 h3 h4 h5 h6
 rcases h7 with ⟨rfl, rfl⟩ | ⟨i, x, q, rfl, rfl, _⟩
 · cases us with
   | nil => rfl
   | cons _ _ => cases hl
 · cases us with
   | nil => cases hl
   | cons u us =>
     cases us with
     | nil => exact bind_one
     | cons _ _ => cases hl
structure LamS2 (sc scope : Scope) (xs : List Str) : Prop where
 kind : scope.kind = .function
 co : scope.isCoroutine = false
 gen : scope.isGenerator = false
 own : ∀ y ∈ scope.names, (y.2 = .local → y.1 ∈ xs) ∧ y.2 ≠ .cell
 free : ∀ y ∈ scope.names, y.2 = .free → sc.names.lookup y.1 = some .cell ∨ sc.names.lookup y.1 = some .free
 par : ∀ x ∈ xs, scope.names.lookup x = some .local
theorem lamS2_by {sc scope : Scope} {xs : List Str} (h : lamSB2 sc scope xs = true) : LamS2 sc scope xs := by
 unfold lamSB2 at h
 simp only [Bool.and_eq_true, Bool.or_eq_true, Bool.not_eq_true', decide_eq_true_eq, decide_eq_false_iff_not, List.all_eq_true] at h
 obtain ⟨⟨⟨⟨h1, h2⟩, h3⟩, h4⟩, h5⟩ := h
 refine ⟨h1, h2, h3, fun y hy => ⟨fun e => ?_, (h4 y hy).1.2⟩, fun y hy e => ?_, h5⟩
 · rcases (h4 y hy).1.1 with z | z
   · exact absurd e z
   · simpa using z
 · rcases (h4 y hy).2 with (z | z) | z
   · exact absurd e z
   · exact .inl z
   · exact .inr z
theorem LamS2.has {X : Cx} {scope : Scope} {xs : List Str} (L : LamS2 X.env.scope scope xs) (ok : X.Ok) : ∀ y ∈ scope.names, y.2 = .free → ∃ c, X.env.cells.lookup y.1 = some c := fun y hy e => by
 rcases L.free y hy e with k | k
 · exact ok.has _ (.inl k)
 · exact ok.has _ (.inr k)
theorem lam_start3 {X : Cx} {pins : List (Addr × Obj)} {σ σ' : L2.St} {H HZ : Hp} {s s1 : Shared} {A : Around} {outer : List PySem.Env} {E : XK} {scope : Scope} {f c' : Addr} {h₁ : Heap} {tk : Nat} {xs : List Str} {us : List Value} (I : Inv X pins σ H s) (L : LamS2 X.env.scope scope xs) (e0 : Env0 X.prog X.w X.K X.mg X.base A outer s1 HZ) (hd : A.handled = none)
   (un : Un (frs X.stack) [] H HZ s.heap s1.heap) (hns : h₁.Ns s1.heap.objs.size fun y => (xs.zip us).reverse.lookup y) (kp : ∀ b o, s1.heap.get? b = some o → h₁.get? b = some o) (hl : σ'.length = X.N.length)
   (hσ : ∀ (i : Nat) (y : Str) (v : V), X.N[i]? = some y → σ'[i]? = some (some v) → (scope.names.lookup y = some .local → ∃ u, L2.RelV v u ∧ (xs.zip us).reverse.lookup y = some u) ∧ (scope.names.lookup y = some .free → σ[i]? = some (some v))) :
   Inv (LamX.lamCx X A outer s1 HZ E scope f c') [] σ' HZ { s1 with heap := h₁, toks := tk } := by
 have hfree := L.has I.ok
 have cm : ∀ {y c}, (cloFrom X.env.cells scope.names []).lookup y = some c → X.env.cells.lookup y = some c := fun {y c} e => by
   rcases cloFrom_mem (PySem.mem_of_lookup e) with hm | ⟨h1, h2⟩
   · cases hm
   · obtain ⟨c1, hc⟩ := hfree _ h1 rfl
     have hc : X.env.cells.lookup y = some c1 := hc
     have e2 : c = c1 := by
       rw [h2, hc] <;> rfl
     rw [e2]
     exact hc
 have look : ∀ {y}, scope.names.lookup y = some .free → ∃ c, (cloFrom X.env.cells scope.names []).lookup y = some c := fun {y} hl => by
   have hy : (y, NameKind.free) ∈ scope.names := PySem.mem_of_lookup hl
   exact mem_lookup (cloFrom_has (cells := X.env.cells) (acc := []) hy)
 have cellK : ∀ {c : Addr} {v : Option Value}, H c = none → s.heap.IsCell c v → h₁.IsCell c v := fun {c v} n ⟨o, ho, hd⟩ => by
   obtain ⟨sl, q⟩ := un.any ho n (by simp)
   exact ⟨_, kp _ _ q, hd⟩
 have noA : ∀ b : Addr, b ∉ (LamX.lamCx X A outer s1 HZ E scope f c').ex := fun b z => absurd (show b ∈ ([] : List Addr) from z) (by simp)
 refine ⟨⟨e0.mod, L.kind, rfl, rfl, Nat.le_refl _, fun y z c e1 e2 => I.ok.inj y z c (cm e1) (cm e2), fun y hy => ?_, fun y c z _ => ?_, fun _ => hd, Around.frames_deeper e0.frames, .inr ⟨rfl, rfl⟩, fun b z => absurd z (noA b), e0.bs, e0.bsz, fun b _ _ => noA b,
     fun b z => absurd z (noA b), e0.funs, e0.frf⟩,
   rfl, e0.bare, Un.kept kp, ⟨_, hns, fun i y v e1 e2 e3 => ?_⟩, fun y c e => ?_, e0.hok.fresh (Nat.le_refl _), fun y c e => ?_, fun q hq => absurd (show q ∈ ([] : List (Addr × Obj)) ++ [] from hq) (by simp), e0.hok.kept kp, hl⟩
 · have hy : scope.names.lookup y = some .cell ∨ scope.names.lookup y = some .free := hy
   rcases hy with hy | hy
   · exact absurd rfl (L.own _ (PySem.mem_of_lookup hy)).2
   · exact look hy
 · have z : false = true := z
   cases z
 · have e3 : Vis scope y := e3
   obtain ⟨s1', s2'⟩ := hσ i y v e1 e2
   rcases e3 with k | k | k
   · obtain ⟨u, r, q⟩ := s1' k
     exact ⟨u, r, .inl ⟨k, q⟩⟩
   · exact absurd rfl (L.own _ (PySem.mem_of_lookup k)).2
   · obtain ⟨m, hn, hl⟩ := I.loc
     have hvis : Vis X.env.scope y := (L.free _ (PySem.mem_of_lookup k) rfl).elim (fun k => .inr (.inl k)) (fun k => .inr (.inr k))
     obtain ⟨w', r, q⟩ := hl i y v e1 (s2' k) hvis
     obtain ⟨c2, h2⟩ := look k
     refine ⟨w', r, .inr ⟨.inr k, c2, h2, ?_⟩⟩
     have c1 := cm h2
     rcases q with ⟨k', _⟩ | ⟨_, c3, e', z⟩
     · have k' : X.env.scope.names.lookup y = some .local := k'
       rcases L.free _ (PySem.mem_of_lookup k) rfl with k2 | k2 <;> rw [show X.env.scope.names.lookup y = _ from k2] at k' <;> cases k'
     · rw [c1] at e'
       cases e'
       exact cellK (I.freeC y _ c1) z
 · obtain ⟨w', z⟩ := I.cell y c (cm e)
   exact ⟨w', cellK (I.freeC y c (cm e)) z⟩
 · obtain ⟨v, o, ho, hd⟩ := I.cell y c (cm e)
   exact un.free c o ho (I.freeC y c (cm e)) (by simp)
theorem MI.extN {ι : Io} {H H1 : Hp} {M : Mem} (m : MI W ι H M) (e : LamX.ExtN H H1) (t : LamX.Tabs W.tb H1) : MI W ι H1 M := ⟨m.m.extN fun b o q n => e b o q n, m.f, t, m.o⟩
theorem ext_extN {ι : Io} {H H1 : Hp} (e : LamX.ExtN H H1) : Ext ι H ι H1 := ⟨⟨[], by simp⟩, fun _ h => h, fun _ _ _ _ h => h, fun a o q t n => ⟨n, e a o q t⟩, rfl, fun a o u q => e a _ q nt_frz⟩
theorem MRel.nts {K : PySem.W.Frag} {ι : Io} {H : Hp} {M : Mem} (m : MRel K ι H M) : ∀ a ∈ ι.pl, ∃ o, H a = some o ∧ NT o := fun a ha => by
 obtain ⟨n, hn⟩ := List.getElem?_of_mem ha
 have hlt : n < M.length := by
   rw [← m.len]
   exact (List.getElem?_eq_some_iff.mp hn).1
 have ok := m.ok n M[n] a (List.getElem?_eq_getElem hlt) hn
 cases q : M[n] with
 | lst ds => rw [q] at ok; obtain ⟨xs, q2, _⟩ := ok; exact ⟨_, q2, nt_lst⟩
 | frz ds => rw [q] at ok; obtain ⟨o, xs, q2, _⟩ := ok; exact ⟨_, q2, nt_frz⟩
 | dic ds => rw [q] at ok; obtain ⟨xs, q2, _⟩ := ok; exact ⟨_, q2, nt_dK⟩
 | dit ds => rw [q] at ok; obtain ⟨xs, q2, _⟩ := ok; exact ⟨_, q2, nt_ext⟩
 | ins c0 ds => rw [q] at ok; obtain ⟨xs, q2⟩ := ok; exact ⟨_, q2, nt_xd⟩
def Io.own (ι : Io) : Io := ⟨[], ι.pl ++ ι.ex, ι.fa⟩
theorem own_mem {ι : Io} {a : Addr} : a ∈ ι.own ↔ a ∈ ι := ⟨fun h => by
 rcases h with h | h
 · exact absurd h (by simp [Io.own])
 · rcases List.mem_append.mp h with h | h
   · exact .inl h
   · exact .inr h, fun h => by
 rcases h with h | h
 · exact .inr (List.mem_append_left _ h)
 · exact .inr (List.mem_append_right _ h)⟩
theorem MI.own {ι : Io} {H : Hp} {M : Mem} (m : MI W ι H M) : MI W ι.own H [] := ⟨⟨rfl, List.nodup_nil, fun a ha => by
   rcases List.mem_append.mp ha with h | h
   · exact m.m.nts a h
   · exact m.m.exl a h, fun n o a e1 e2 => by cases e1⟩, m.f, m.t, fun p hp z => m.o p hp (own_mem.mp z)⟩
theorem Ext.ownN {ι ι' : Io} {H H' : Hp} (e : Ext ι.own H ι' H') : LamX.ExtN H H' := fun b o h n => (e.keep b o h n (by simp [Io.own])).2
theorem Ext.ownS {ι ι' : Io} {H H' : Hp} (e : Ext ι.own H ι' H') : ∀ a, a ∈ ι → a ∈ ι' := fun a ha => by
 have h : a ∈ ι.own.ex := by
   rcases own_mem.mpr ha with z | z
   · exact absurd z (by simp [Io.own])
   · exact z
 exact .inr (e.exs a h)
theorem denZL_own {K : PySem.W.Frag} {ι : Io} {H : Hp} : ∀ {vs : List V} {ds : List D}, DenL K ι H vs ds → DenZL K ι.own H vs (ds.map .d)
 | _, _, .nil => .nil
 | _, _, .cons h l => .cons (.d (h.anti (fun _ z => own_mem.mp z) rfl)) (denZL_own l)
theorem endF_own {ι : Io} {H : Hp} {M : Mem} {σ : St} {Q : VK} {r : R Z} (m : MI W ι H M) (e : EndG W wx σ ι H (DenZ W.K) Q (r.own M)) : EndF W ι.own H Q (WE wx σ) r := by
 cases r with
 | bad => exact e
 | ok z M' =>
   cases z with
   | r n =>
     have e : EndG W wx σ ι H (DenZ W.K) Q (match getL M' n with
       | some xs => .ok (.d (.list xs)) M
       | none => .bad) := e
     cases gl : getL M' n with
     | none => rw [gl] at e; exact e.elim
     | some xs =>
       rw [gl] at e
       intro ι' v' H' ex m' d
       cases d with
       | @r _ a ha =>
         obtain ⟨us, h1, l⟩ := m'.m.at (getL_some gl) ha
         refine e ι _ H' (ext_extN ex.ownN) (m.extN ex.ownN m'.t) (.d (.lst ⟨fun z => ?_, h1⟩ (l.anti ex.ownS ex.fns.symm)))
         have hz : ∃ o, H a = some o ∧ NT o := by
           rcases z with z | z
           · exact m.m.nts a z
           · exact m.m.exl a z
         obtain ⟨o, q1, q2⟩ := hz
         exact (ex.keep a o q1 q2 (by simp [Io.own])).1 (List.mem_of_getElem? ha)
   | f _ => exact e.elim
   | d v =>
     intro ι' v' H' ex m' d
     cases d with
     | d d => exact e ι v' H' (ext_extN ex.ownN) (m.extN ex.ownN m'.t) (.d (d.anti ex.ownS ex.fns.symm))
 | ex x M' =>
   intro ι' dx H' ex m' xf
   refine e ι dx H' (ext_extN ex.ownN) (m.extN ex.ownN m'.t) ⟨xf.1, fun f d q => ?_⟩
   obtain ⟨dd, xs, v, h1, h2, h3, h4, h5⟩ := xf.2 f d q
   exact ⟨dd, xs, v, h1, fun z => h2 (ex.ownS _ z), h3, h4, h5.anti ex.ownS ex.fns.symm⟩
theorem nb_own {r : R Z} {M : Mem} (h : r.own M ≠ .bad) : r ≠ .bad := fun z => by rw [z] at h; exact h rfl
theorem spF_own (ok : WOk W G) {f : Nat} {y : Str} (hy : G.nm[f]? = some y) {σ : St} {ι : Io} {H : Hp} {Q : VK} {vs : List V} {zs : List Z} {M : Mem} (m : MI W ι H M) (d : DenZL W.K ι H vs zs) (e : EndG W wx σ ι H (DenZ W.K) Q (match dsOf zs with
     | some ds => ((W.cfg k h).fn h f (ds.map .d) []).own M
     | none => .bad)) : spF W k h f vs H Q (WE wx σ) := by
 cases q : dsOf zs with
 | none => rw [q] at e; exact e.elim
 | some ds =>
   rw [q] at e
   have dl := d.data q
   refine ⟨by rw [dl.length]; simpa using fn_len ok hy (nb_own (nb_of e)), ι.own, [], ds.map .d, m.own, denZL_own dl, endF_own m e⟩
theorem j_callP (g : GX W G S k h cc X wx) {f : Nat} {x : Str} {y : Expr} {ys : List Expr} {r : Env → Mem → R (List Z)} {p pos : Pos} (hy : G.nm[f]? = some x) (hg : isGlob cc x = true) (hp : plainName x = true) (hr : PA X (y :: ys) (tDs W S wx r)) (hn : (y :: ys).all notStar = true) :
   PE X (.Call (.Name x p) (y :: ys) [] pos) (tD W S wx fun ρ M => (r ρ M).bind fun zs M1 => match dsOf zs with
     | some ds => ((W.cfg k h).fn h f (ds.map .d) []).own M1
     | none => .bad) := by
 rw [List.all_cons, Bool.and_eq_true] at hn
 obtain ⟨h1, h2, _⟩ := plain_dbg hp
 obtain ⟨gm, gk, gb⟩ := g.ok.glob f x hy
 have main : PE X (.Call (.Name x p) (y :: ys) [] pos) (tCallS (spF W k h f) (WE wx) (tDs W S wx r)) := by
   cases h with
   | false =>
     have F := (g.calls k (Nat.le_refl k)).calm f x hy
     rw [← g.eP, ← g.eW, ← g.eK, ← g.eM, ← g.eB] at F
     exact pe_callS F (g.calm rfl).2 (g.gl hg) (by rw [g.eM]; exact gm) (by rw [g.eK]; exact gk) (by rw [g.eK]; exact gb) (fun σ => L2N.passAt g.takes σ) hr h1 (star_of hn.1) (plain_of hn.2)
   | true =>
     have F := (g.calls k (Nat.le_refl k)).hot f x hy
     rw [← g.eP, ← g.eW, ← g.eK, ← g.eM, ← g.eB] at F
     exact L2H.pe_callH F g.room (g.hot rfl) (g.gl hg) (by rw [g.eM]; exact gm) (by rw [g.eK]; exact gk) (by rw [g.eK]; exact gb) (fun σ => L2N.passAt g.takes σ) hr h1 (star_of hn.1) (plain_of hn.2)
 refine main.imp fun σ H Q hq => ?_
 obtain ⟨ι, ρ, M, rl, e⟩ := hq
 dsimp only at e
 exact ⟨ι, ρ, M, rl, e.step fun z M1 ι1 v1 H1 ex m d e1 => spF_own g.ok hy m d e1⟩
theorem j_callP0 (g : GX W G S k h cc X wx) {f : Nat} {x : Str} {p pos : Pos} (hy : G.nm[f]? = some x) (hg : isGlob cc x = true) (hp : plainName x = true) :
   PE X (.Call (.Name x p) [] [] pos) (tD W S wx fun ρ M => (R.ok ([] : List Z) M).bind fun zs M1 => match dsOf zs with
     | some ds => ((W.cfg k h).fn h f (ds.map .d) []).own M1
     | none => .bad) := by
 obtain ⟨h1, h2, _⟩ := plain_dbg hp
 obtain ⟨gm, gk, gb⟩ := g.ok.glob f x hy
 refine ⟨fun pins s σ H Q I hq => ?_⟩
 obtain ⟨ι, ρ, M, rl, e⟩ := hq
 have sp := spF_own (zs := []) g.ok hy rl.m .nil e
 refine wpAny_Call_Name_kw (ld_glob I (g.gl hg) (by rw [g.eM]; exact gm) ?_ h1)
 refine PySem.W.callWith_K0 I.kIn (by rw [g.eK]; exact gk) ?_
 cases h with
 | false =>
   have F := (g.calls k (Nat.le_refl k)).calm f x hy
   rw [← g.eP, ← g.eW, ← g.eK, ← g.eM, ← g.eB] at F
   exact run_fnS (us := []) F (g.calm rfl).2 (by rw [g.eK]; exact gb) (L2N.passAt g.takes σ) I .nil sp
 | true =>
   have F := (g.calls k (Nat.le_refl k)).hot f x hy
   rw [← g.eP, ← g.eW, ← g.eK, ← g.eM, ← g.eB] at F
   exact L2H.run_fnH (us := []) F g.room (g.hot rfl) (by rw [g.eK]; exact gb) (L2N.passAt g.takes σ) I .nil sp
theorem j_mdt {X : Cx} (hw : X.w = W.w) {pos : Pos} : PE X (.Dict [] [] pos) (tD W S wx fun _ M => .ok (.r M.length) (M ++ [.dit []])) := by
 refine (pe_dnewN hw).imp fun σ H Q hq => ?_
 obtain ⟨ι, ρ, M, rl, e⟩ := hq
 dsimp only at e
 intro p hp hs
 refine e (ι.add p) _ _ (Ext.newM hp) (rl.m.newO hp ⟨[], by rw [show (ι.add p).fa = ι.fa from rfl, rl.m.wd]; exact upd_same, ⟨rfl, .nil, .nil, List.nodup_nil, Nat.zero_le _, hs⟩⟩) (.r ?_)
 rw [← rl.m.m.len]
 show (ι.pl ++ [p])[ι.pl.length]? = some p
 rw [List.getElem?_append_right (Nat.le_refl _)]
 simp
def lamN (X : Cx) (A : Around) (outer : List PySem.Env) (s : Shared) (H : Hp) (E : XK) (scope : Scope) (f c' : Addr) : Cx :=
 (LamX.lamCx X A outer s H E scope f c').tr ([] ++ []) (fun e s' => wpAny (model X.prog X.w) (A.deeper (LamX.lamEnv X scope s.heap.objs.size f c')) (leaving (LamX.lamEnv X scope s.heap.objs.size f c') e) (fun _ s'' => L2N.CX X.prog X.w outer H s E e s'') (fun e' s'' => L2N.CX X.prog X.w outer H s E e' s'') s')
theorem gx_lam (g : GX W G S k h cc X wx) {A : Around} {outer : List PySem.Env} {s : Shared} {H : Hp} {E : XK} {scope : Scope} {f c' : Addr} {j : Nat} (hj : j ≤ k) (hr : Room j (A.deeper (LamX.lamEnv X scope s.heap.objs.size f c'))) :
   GX W G Sc.none j false ⟨cc.N, scope, false, false, false, fun _ => false⟩ (lamN X A outer s H E scope f c') (fun cls dx _ H' => E cls dx H') :=
 { eP := g.eP, eW := g.eW, eK := g.eK, eM := g.eM, eB := g.eB, eN := g.eN, nd := g.nd, eS := rfl, room := L2H.roomH_of hr, calm := fun _ => ⟨rfl, hr⟩, hot := (fun z => nomatch z), takes := L2N.takes_of rfl rfl rfl rfl, pass := passes_of rfl, st := (fun _ z => nomatch z), ok := g.ok,
   calls := fun i hi => g.calls i (Nat.le_trans hi hj), lam := (fun z => nomatch z), xc := (fun z => nomatch z), xp := (fun z => nomatch z), nx := (fun _ _ _ _ z => z), fr := (fun z => nomatch z), xl := (fun z => nomatch z) }
theorem sr_cap {K : PySem.W.Frag} {ι : Io} {H : Hp} {σ : St} {cap : List (Option Z)} (hl : σ.length = cap.length) (c : CapOk K ι H σ cap) : SR K Sc.none ι H σ (ofCap cap) := by
 refine ⟨by simp [ofCap, hl], fun i s hs => ?_⟩
 unfold ofCap at hs
 rw [List.getElem?_map] at hs
 cases q : cap[i]? with
 | none => rw [q] at hs; cases hs
 | some o =>
   rw [q] at hs
   cases o with
   | none => cases hs; trivial
   | some z =>
     cases hs
     exact c i z q
theorem cap_of {K : PySem.W.Frag} {ι : Io} {H : Hp} {σ : St} {ρ : Env} (s : SR K S ι H σ ρ) : CapOk K ι H σ (capOf ρ) ∧ σ.length = (capOf ρ).length := by
 refine ⟨fun i z hz => ?_, by simp [capOf, s.len]⟩
 unfold capOf at hz
 rw [List.getElem?_map] at hz
 cases q : ρ[i]? with
 | none => rw [q] at hz; cases hz
 | some sl =>
   rw [q] at hz
   refine s.get (i := i) ?_
   unfold getZ
   rw [q]
   exact Option.some.inj hz
def scL (f c' : Addr) (q : Str) (ps : List Nat) (b : E) (σ0 : St) : Sc where
 CL := fun f' ps' b' σc ι H => f' = f ∧ ps' = ps ∧ b' = b ∧ σc = σ0 ∧ H c' = some (LamX.CodeO c' q) ∧ c' ∉ ι.pl
 mono := fun ⟨h1, h2, h3, h4, h5, h6⟩ e => ⟨h1, h2, h3, h4, (e.keep c' _ h5 LamX.codeO_ne h6).2, (e.keep c' _ h5 LamX.codeO_ne h6).1⟩
 touch := fun {_ _ _ _ _ _ D _} ⟨h1, h2, h3, h4, h5, h6⟩ hc => ⟨h1, h2, h3, h4, by
   have ne : c' ≠ D := fun z => by
     rcases hc with hc | ⟨xs, hc⟩
     · exact h6 (by rw [z]; exact hc)
     · rw [z, hc] at h5
       cases Option.some.inj h5
   rw [upd_ne ne]
   exact h5, h6⟩
 XA := fun _ _ _ => False
theorem lam_slots {K : PySem.W.Frag} {ι : Io} {HZ : Hp} {N : List Str} {ps : List Nat} {p : Arguments} {scope sc : Scope} (hN : N.Nodup) (hp : parsB N ps p = true) (L : LamS2 sc scope (p.args.map (·.arg))) {σ : St} {cap : List (Option Z)} {us : List Value} {vs : List V} {zs : List Z} {ρ : Env}
   (hlen : σ.length = cap.length) (hσl : σ.length = N.length) (hcap : CapOk K ι HZ σ cap) (d : DenZL K ι HZ vs zs) (rv : Vals vs us) (hb : bindArgs0 ps (ofCap cap) zs = some ρ) :
   us.length = ps.length ∧ ∃ σ', SR K Sc.none ι HZ σ' ρ ∧ σ'.length = N.length ∧ ∀ (i : Nat) (y : Str) (v : V), N[i]? = some y → σ'[i]? = some (some v) → (scope.names.lookup y = some .local → ∃ u, L2.RelV v u ∧ ((p.args.map (·.arg)).zip us).reverse.lookup y = some u) ∧ (scope.names.lookup y = some .free → σ[i]? = some (some v)) := by
 obtain ⟨_, _, _, _, _, _, h7⟩ := par_parts hp
 rcases h7 with ⟨rfl, ha⟩ | ⟨i0, x, q, rfl, ha, hx⟩
 · cases d with
   | cons _ _ => cases hb
   | nil =>
     cases rv
     cases hb
     refine ⟨rfl, σ, sr_cap hlen hcap, hσl, fun i y v h1 h2 => ⟨fun hk => ?_, fun _ => h2⟩⟩
     have := (L.own _ (PySem.mem_of_lookup hk)).1 rfl
     rw [ha] at this
     cases this
 · cases d with
   | nil => cases hb
   | @cons v0 vs0 z0 zs0 d0 d1 =>
     cases d1 with
     | cons _ _ => cases hb
     | nil =>
       cases rv with
       | @cons _ u0 _ us0 r0 rr =>
         cases rr
         cases hb
         have hlt : i0 < σ.length := by
           rw [hσl]
           exact (List.getElem?_eq_some_iff.mp hx).1
         refine ⟨rfl, σ.set i0 (some v0), (sr_cap hlen hcap).set i0 d0, by simp [hσl], fun i y v h1 h2 => ⟨fun hk => ?_, fun hk => ?_⟩⟩
         · have hm := (L.own _ (PySem.mem_of_lookup hk)).1 rfl
           rw [ha] at hm
           have hy : y = x := by simpa using hm
           subst hy
           have ei : i = i0 := by
             obtain ⟨a1, a2⟩ := List.getElem?_eq_some_iff.mp h1
             obtain ⟨b1, b2⟩ := List.getElem?_eq_some_iff.mp hx
             exact (List.getElem_inj hN).mp (a2.trans b2.symm)
           subst ei
           rw [List.getElem?_set_self hlt] at h2
           cases h2
           refine ⟨u0, r0, ?_⟩
           rw [ha]
           simp [List.lookup]
         · have ne : i0 ≠ i := fun e => by
             subst e
             rw [hx] at h1
             cases h1
             have hm := L.par x (by rw [ha]; simp)
             rw [hm] at hk
             cases hk
           rw [List.getElem?_set_ne ne] at h2
           exact h2
theorem act_lam (g : GX W G S (k + 1) false cc X wx) {pins : List (Addr × Obj)} {σ : St} {H : Hp} {s : Shared} {f c' : Addr} {pm ctv : Value} {params : Arguments} {body : Expr} {scope : Scope} {ps : List Nat} {b : E} (I : Inv X pins σ H s) (L : LamS2 X.env.scope scope (params.args.map (·.arg))) (hp : parsB cc.N ps params = true)
   (hf : s.heap.get? f = some (PySem.W.kla_obj "<lambda>" (X.env.qual ++ "<lambda>") params body scope (cloFrom X.env.cells scope.names []) pm c' ctv)) (hfn : H f = none) (hfr : f ∉ frs X.stack)
   (hb : ∀ {j : Nat} {X' : Cx} {wx' : WX}, GX W G Sc.none j false ⟨cc.N, scope, false, false, false, fun _ => false⟩ X' wx' → PE X' body (tD W Sc.none wx' (evE (W.cfg j false) b))) :
   XL W (scL f c' (X.env.qual ++ "<lambda>") ps b σ) k X.A X.stack s H := by
 intro N qual sg fg cdg E hr pn xe wx' tk pinsZ s1 σZ H1 I1 f' ps' b' σc ι hCL
 obtain ⟨e1, e2, e3, e4, hcO, hcn⟩ := hCL
 subst e1 e2 e3 e4
 have fAt := I1.base.keep f' _ hf hfn hfr (fun z => nomatch (show f' ∈ ([] : List Addr) from z))
 refine ⟨⟨_, _, _, _, fAt⟩, fun cap M us vs zs Q hcap hlen m d rv e => ?_⟩
 cases k with
 | zero => exact e.elim
 | succ j =>
   have e : EndG W wx' σZ ι H1 (DenZ W.K) Q (match bindArgs0 ps' (ofCap cap) zs with
     | some ρ => evE (W.cfg j false) b' ρ M
     | none => .bad) := e
   cases hba : bindArgs0 ps' (ofCap cap) zs with
   | none => rw [hba] at e; exact e.elim
   | some ρ =>
   rw [hba] at e
   have e : EndG W wx' σZ ι H1 (DenZ W.K) Q (evE (W.cfg j false) b' ρ M) := e
   obtain ⟨⟨oc, vs0, t, o1, o2, o3⟩, _, _⟩ := I1.hok c' _ hcO
   have eP : X.prog = W.P := g.eP
   have eW : X.w = W.w := g.eW
   have eK : X.K = W.K := g.eK
   have eM : X.mg = W.mg := g.eM
   have eB : X.base = W.base := g.eB
   obtain ⟨hul, σ', sr', hl', hσ'⟩ := lam_slots (N := cc.N) (by rw [← g.eN]; exact g.nd) hp L hlen (by rw [← g.eN]; exact I.len) hcap d rv hba
   have done : codeAny (model W.P W.w) (X.A.deeper (envOfC qual sg s.heap.objs.size fg cdg)) (.call (.ref f') ⟨us, []⟩) (CR (L2N.CX W.P W.w) (envOfC qual sg s.heap.objs.size fg cdg :: X.stack) W.P W.w H1 s1 Q (WE wx' σZ)) s1 := by
     refine PySem.W.kla_callFunE hr.depth fAt rfl L.co L.gen rfl ⟨c', oc, vs0, t, rfl, o1, o2, o3⟩ ?_
     rw [par_bind hp hul]
     refine wpAny_pure (wpAny_newFunctionEnv (fun z hz => (L.own z hz).2) (fun z hz => L.par z.1 (List.of_mem_zip (a := z.1) (b := z.2) hz).1) (fun h1 hns hsb => ⟨I1.nolimit.fresh _ hsb, ?_⟩) L.kind)
     show codeAny _ _ (.expr body (LamX.lamEnv X scope s1.heap.objs.size f' c')) _ _
     have stay : ∀ a o, s1.heap.get? a = some o → h1.get? a = some o := fun a o q => hsb.extBut a o (Nat.ne_of_lt (Heap.lt_size q)) (Heap.get?_push_of_some _ q)
     have e0 : Env0 X.prog X.w X.K X.mg X.base (X.A.deeper (envOfC qual sg s.heap.objs.size fg cdg)) (envOfC qual sg s.heap.objs.size fg cdg :: X.stack) s1 H1 := by
       rw [eP, eW, eK, eM, eB]
       exact I1.env0
     have J := lam_start3 (E := WE wx' σZ) (c' := c') (f := f') (tk := s1.toks + (((params.args.map (·.arg)).zip us) : List (Str × Value)).length) I L e0 hr.hd I1.base hns stay (by rw [g.eN]; exact hl') (by rw [g.eN]; exact hσ')
     have J2 := J.toTry (fun e s' => wpAny (model X.prog X.w) ((X.A.deeper (envOfC qual sg s.heap.objs.size fg cdg)).deeper (LamX.lamEnv X scope s1.heap.objs.size f' c')) (leaving (LamX.lamEnv X scope s1.heap.objs.size f' c') e) (fun _ s'' => L2N.CX X.prog X.w (envOfC qual sg s.heap.objs.size fg cdg :: X.stack) H1 s1 (WE wx' σZ) e s'') (fun e' s'' => L2N.CX X.prog X.w (envOfC qual sg s.heap.objs.size fg cdg :: X.stack) H1 s1 (WE wx' σZ) e' s'') s')
     have gl := gx_lam g (outer := envOfC qual sg s.heap.objs.size fg cdg :: X.stack) (s := s1) (H := H1) (E := WE wx' σZ) (scope := scope) (f := f') (c' := c') (j := j) (by omega) (hr.deeper _)
     have run := (hb gl).run [] _ σ' H1 Q J2 ⟨ι, ρ, M, ⟨sr', m⟩, e⟩
     rw [← eP, ← eW]
     refine PySem.W.kla_codeExpr (wpAny_mono run (fun v s' hv => ?_) fun x s' hx => hx)
     obtain ⟨w', H', K', rv, q⟩ := hv
     exact ⟨w', H', K'.os, K'.bare, K'.base, K'.hok, rv, q⟩
   show wpAny (model W.P W.w) (X.A.deeper (envOfC qual sg s.heap.objs.size fg cdg)) _ _ _ _
   refine wpAny_call (codeAny_mono done fun r s' hr' => ?_)
   cases r with
   | error x => exact L2N.passAt tk σZ pinsZ H1 s1 x s' I1 hr'
   | ok fl =>
     cases fl with
     | ret u => exact I1.after hr'
     | next => exact False.elim hr'
     | brk => exact False.elim hr'
     | cont => exact False.elim hr'
theorem lam_call (g : GX W G S (k + 1) false cc X wx) {f : Nat} {x : Str} {ps : List Nat} {b : E} {lpos pos : Pos} {params : Arguments} {body : Expr} {scope : Scope} (hl : cc.lam = true) (hy : G.nm[f]? = some x) (hp : parsB cc.N ps params = true) (hL : lamSB2 cc.sc scope (params.args.map (·.arg)) = true)
   (hb : ∀ {j : Nat} {X' : Cx} {wx' : WX}, GX W G Sc.none j false ⟨cc.N, scope, false, false, false, fun _ => false⟩ X' wx' → PE X' body (tD W Sc.none wx' (evE (W.cfg j false) b)))
   {pins : List (Addr × Obj)} {s : Shared} {σ : St} {H : Hp} {Q : VK} {ι : Io} {ρ : Env} {M : Mem} {us : List Value} {vs : List V} {zs : List Z} (I : Inv X pins σ H s) (rl : Rl W S ι σ H ρ M) (d : DenZL W.K ι H vs zs) (rv : Vals vs us) (e : EndG W wx σ ι H (DenZ W.K) Q ((W.cfg (k + 1) false).fnL f zs ps b (capOf ρ) M)) :
   wpAny (model X.prog X.w) X.A (spliced ((false, eval (.Lambda params body scope lpos) X.env) :: backTo pos (starEach [] X.env))) (fun vs1 s1 => X.K.In s1.heap ∧ wpAny (model X.prog X.w) X.A (call (.ref (W.fa f)) (us ++ vs1)) (EP X pins σ Q) X.xe s1) X.xe s := by
 obtain ⟨gm, gk, gb⟩ := g.ok.glob f x hy
 obtain ⟨c, P, TB, hcode, hT⟩ := g.lam hl
 have L : LamS2 X.env.scope scope (params.args.map (·.arg)) := by
   rw [g.eS]
   exact lamS2_by hL
 refine Calls.spliced_cons (LamX.lam_make2 I TB hcode hT (fun q hq e2 => g.ok.tbu q hq _ hT e2) rl.m.t (par_def hp) (L.has I.ok) fun f0 c' pm' ctv H1 s1 I1 eN T1 hf hfn hfr hco => ?_)
 refine Calls.spliced_nil ⟨I1.kIn, ?_⟩
 have m1 := rl.m.extN eN T1
 have ex : Ext ι H ι H1 := ext_extN eN
 obtain ⟨cp, cl⟩ := cap_of (rl.s.mono ex)
 have cn : c' ∉ ι.pl := fun z => by
   obtain ⟨n, hn⟩ := List.getElem?_of_mem z
   have hlt : n < M.length := by
     rw [← m1.m.len]
     exact (List.getElem?_eq_some_iff.mp hn).1
   have ok := m1.m.ok n M[n] c' (List.getElem?_eq_getElem hlt) hn
   cases q : M[n] with
   | lst ds => rw [q] at ok; obtain ⟨xs, q2, _⟩ := ok; rw [hco] at q2; cases q2
   | frz ds => rw [q] at ok; obtain ⟨o, xs, q2, _⟩ := ok; rw [hco] at q2; cases q2
   | dic ds => rw [q] at ok; obtain ⟨xs, q2, _⟩ := ok; rw [hco] at q2; cases q2
   | dit ds => rw [q] at ok; obtain ⟨xs, q2, _⟩ := ok; rw [hco] at q2; exact rawN_code (Option.some.inj q2).symm
   | ins c0 ds => rw [q] at ok; obtain ⟨xs, q2⟩ := ok; rw [hco] at q2; cases q2
 have e0 : Env0 W.P W.w W.K W.mg W.base X.A X.stack s1 H1 := by
   rw [← g.eP, ← g.eW, ← g.eK, ← g.eM, ← g.eB]
   exact I1.env0
 have rc := (g.calls (k + 1) (Nat.le_refl _)).calmL f x hy (scL f0 c' (X.env.qual ++ "<lambda>") ps b σ) X.A X.stack s1 H1 f0 ps b σ (capOf ρ) ι M us vs zs Q (WE wx σ) (d.mono ex) rv (fun _ _ _ z => z) (g.calm rfl).2 e0
   (fun j hj => by
     cases Nat.succ.inj hj
     exact act_lam g I1 L hp hf hfn hfr hb) ⟨rfl, rfl, rfl, rfl, hco, cn⟩ cp cl m1 (endF_of (EndG.mono ex e))
 rw [← g.eP, ← g.eW] at rc
 refine wpAny_call (codeAny_mono rc fun r s2 hr' => ?_)
 cases r with
 | error y => exact L2N.passAt g.takes σ pins H1 s1 y s2 I1 hr'
 | ok fl =>
   cases fl with
   | ret u => exact I1.after hr'
   | next => exact False.elim hr'
   | brk => exact False.elim hr'
   | cont => exact False.elim hr'
theorem j_callL0 (g : GX W G S k h cc X wx) {f : Nat} {x : Str} {ps : List Nat} {b : E} {p lpos pos : Pos} {params : Arguments} {body : Expr} {scope : Scope} (hl : cc.lam = true) (hy : G.nm[f]? = some x) (hgl : isGlob cc x = true) (hpx : plainName x = true) (hp : parsB cc.N ps params = true) (hL : lamSB2 cc.sc scope (params.args.map (·.arg)) = true)
   (hb : ∀ {j : Nat} {X' : Cx} {wx' : WX}, GX W G Sc.none j false ⟨cc.N, scope, false, false, false, fun _ => false⟩ X' wx' → PE X' body (tD W Sc.none wx' (evE (W.cfg j false) b))) :
   PE X (.Call (.Name x p) [.Lambda params body scope lpos] [] pos) (tD W S wx fun ρ M => if h then .bad else (R.ok ([] : List Z) M).bind fun zs M1 => (W.cfg k h).fnL f zs ps b (capOf ρ) M1) := by
 cases h with
 | true => exact j_bad fun ρ M => if_pos rfl
 | false =>
   refine ⟨fun pins s σ H Q I hq => ?_⟩
   obtain ⟨ι, ρ, M, rl, e⟩ := hq
   dsimp only at e
   rw [if_neg Bool.false_ne_true] at e
   cases k with
   | zero => exact e.elim
   | succ k =>
     obtain ⟨x1, x2, _⟩ := plain_dbg hpx
     obtain ⟨gm, gk, gb⟩ := g.ok.glob f x hy
     refine wpAny_Call_Name_kw (ld_glob I (g.gl hgl) (by rw [g.eM]; exact gm) ?_ x1)
     refine PySem.W.callWith_K (first := []) (h₀ := X.base) I.ok.mod.kin (by rw [g.eK]; exact gk) ?_ rfl rfl
     exact lam_call g (us := []) (vs := []) (zs := []) hl hy hp hL hb I rl .nil .nil e
theorem j_callL1 (g : GX W G S k h cc X wx) {f : Nat} {x : Str} {ps : List Nat} {b : E} {p lpos pos : Pos} {z : Expr} {fz : Env → Mem → R Z} {params : Arguments} {body : Expr} {scope : Scope} (hl : cc.lam = true) (hy : G.nm[f]? = some x) (hgl : isGlob cc x = true) (hpx : plainName x = true) (hp : parsB cc.N ps params = true) (hL : lamSB2 cc.sc scope (params.args.map (·.arg)) = true)
   (hz : PE X z (tD W S wx fz)) (hn : notStar z = true) (hb : ∀ {j : Nat} {X' : Cx} {wx' : WX}, GX W G Sc.none j false ⟨cc.N, scope, false, false, false, fun _ => false⟩ X' wx' → PE X' body (tD W Sc.none wx' (evE (W.cfg j false) b))) :
   PE X (.Call (.Name x p) [z, .Lambda params body scope lpos] [] pos) (tD W S wx fun ρ M => if h then .bad else ((fz ρ M).bind fun u M1 => R.ok [u] M1).bind fun zs M1 => (W.cfg k h).fnL f zs ps b (capOf ρ) M1) := by
 cases h with
 | true => exact j_bad fun ρ M => if_pos rfl
 | false =>
   refine ⟨fun pins s σ H Q I hq => ?_⟩
   obtain ⟨ι, ρ, M, rl, e⟩ := hq
   dsimp only at e
   rw [if_neg Bool.false_ne_true] at e
   have e : EndG W wx σ ι H (DenZ W.K) Q ((fz ρ M).bind fun u M1 => (W.cfg k false).fnL f [u] ps b (capOf ρ) M1) := by
     cases q : fz ρ M with
     | ok u M1 => rw [q] at e; exact e
     | ex x M1 => rw [q] at e; exact e
     | bad => rw [q] at e; exact e
   obtain ⟨x1, x2, _⟩ := plain_dbg hpx
   obtain ⟨gm, gk, gb⟩ := g.ok.glob f x hy
   refine wpAny_Call_Name_kw (ld_glob I (g.gl hgl) (by rw [g.eM]; exact gm) ?_ x1)
   refine PySem.W.callWith_K (first := []) (h₀ := X.base) I.ok.mod.kin (by rw [g.eK]; exact gk) ?_ (star_of hn) rfl
   rw [star_of hn]
   show wpAny _ _ (spliced ((false, eval z X.env) :: backTo pos (starEach [.Lambda params body scope lpos] X.env))) _ _ s
   refine Calls.spliced_cons (thn (hz.run pins s σ H (fun v H1 => ∃ ι1 u M1, Ext ι H ι1 H1 ∧ MI W ι1 H1 M1 ∧ DenZ W.K ι1 H1 v u ∧ EndG W wx σ ι1 H1 (DenZ W.K) Q ((W.cfg k false).fnL f [u] ps b (capOf ρ) M1)) I ⟨ι, ρ, M, rl, e.step fun u M1 ι1 v1 H1 ex m d e1 => ⟨ι1, u, M1, ex, m, d, e1⟩⟩) fun v s1 ⟨w, H1, I1, r1, q1⟩ => ?_)
   obtain ⟨ι1, u, M1, ex, m, d, e1⟩ := q1
   cases k with
   | zero => exact e1.elim
   | succ k => exact lam_call g (us := [v]) (vs := [w]) (zs := [u]) hl hy hp hL hb I1 (rl.go ex m) (.cons d .nil) (.cons r1 .nil) e1
end
end Zt
namespace Zt
open PySem PySem.Spec PyProof.Rows L2
theorem exT_ok {P : Program} {w : World} {H : Hp} {h : Heap} {e C t : Addr} (he : h.get? e = some ({ cls := .ref C, dict := none, data := .fields #[.ref t, .none, .none, .none, .bool false, .none] } : Obj)) : ObjOk P w H h e (exT e C t) :=
 ⟨he, ⟨_, he⟩, fun _ _ q k => k _ q⟩
theorem un_two {fs ex : List Addr} {H : Hp} {h h' : Heap} {a t : Addr} {o u : HO} (k : ∀ b u, h.get? b = some u → h'.get? b = some u) (pa : h.get? a = none) (pt : h.get? t = none) (na : H a = none) (nt : H t = none) : Un fs ex H (upd (upd H t u) a o) h h' where
 keep := fun b u q _ _ _ => k b u q
 slot := fun b u q _ _ _ => ⟨u.slots, k b u q⟩
 free := fun b u q n _ => by rw [upd_ne (fun z => by rw [z, pa] at q; cases q), upd_ne (fun z => by rw [z, pt] at q; cases q)]; exact n
 there := fun b u q _ => ⟨u, k b u q⟩
 tups := fun b xs q => by rw [upd_ne (ne_of_none q na), upd_ne (ne_of_none q nt)]; exact q
 frzs := fun b u xs q => by rw [upd_ne (ne_of_none q na), upd_ne (ne_of_none q nt)]; exact q
 tbls := fun b ps q => ⟨#[], by rw [upd_ne (ne_of_none q na), upd_ne (ne_of_none q nt), q]; simp⟩
theorem pe_excT {X : Cx} {C : Addr} {bmB : List Value} {B newId initId : String} {x : Str} {e : Expr} {ta : TE} {p pos : Pos} (F : ExcBaseFacts B newId initId bmB) (q : PySem.W.excIn X.K C bmB newId = true) (gC : X.mg x = some (.ref C)) (kC : PySem.W.keepIn X.K (.ref C) = true) (hg : Gl X x)
   (he : PE X e ta) (hst : notStar e = true) (hdb : (x == ("__debug__" : Str)) = false) :
   PE X (.Call (.Name x p) [e] [] pos) (fun σ H Q => ta σ H fun v H1 => ∃ y, v = .str y ∧ ∀ a t, H1 a = none → H1 t = none → a ≠ t → Q (.ref a) (upd (upd H1 t (.tup [.str y])) a (exT a C t))) := by
 have hs : starEach [e] X.env = (false, eval e X.env) :: starEach [] X.env := by cases e <;> first | rfl | cases hst
 refine ⟨fun pins s σ H Q I h => ?_⟩
 refine wpAny_Call_Name_kw (ld_glob I hg gC ?_ hdb)
 refine PySem.W.callWith_K (h₀ := X.base) I.ok.mod.kin kC ?_ hs (by rfl)
 rw [hs]
 show wpAny _ _ (spliced ((false, eval e X.env) :: backTo pos (starEach [] X.env))) _ _ s
 refine Calls.spliced_cons (thn (he.run pins s σ H _ I h) fun u s1 ⟨v, H1, I1, r1, y, ey, q1⟩ => ?_)
 subst ey
 obtain ⟨tk, rfl⟩ := r1
 refine Calls.spliced_nil ⟨I1.kIn, ?_⟩
 show wpAny _ _ (call (.ref C) [.str y tk]) _ _ _
 obtain ⟨bm, N, nm, qn, bs, hdct, sn, sub, ab, col, dd, k0, k1, k2, k3, k5, mN, hC, hN, hni, T⟩ := exc_obj I1.kIn q
 refine wpAny_call_exc_subT F T hC hN hni (fun h' a hm => ?_) (by show 1 ≤ sizeLine; rw [sizeLine_eq]; omega)
 have na : H1 a = none := I1.hok.gone hm.new
 obtain ⟨t, ha, tn, ht⟩ := hm.there
 have nt : H1 t = none := I1.hok.gone tn
 have hat : a ≠ t := fun z => by
   rw [z, ht] at ha
   cases ha
 have ok1 : HOk X.prog X.w (upd H1 t (.tup [.str y])) h' := I1.hok.laidN hm.keeps nt ⟨by rw [sizeLine_eq]; simp, [.str y tk], .cons ⟨tk, rfl⟩ .nil, _, ht, rfl, _, rfl⟩
 have ok2 : HOk X.prog X.w (upd (upd H1 t (.tup [.str y])) a (exT a C t)) h' := ok1.laidN (fun _ _ z => z) (by rw [upd_ne hat]; exact na) (exT_ok ha)
 exact ⟨.ref a, _, I1.un (un_two hm.keeps hm.new tn na nt) ok2, rfl, q1 a t na nt hat⟩
theorem pe_oexV {X : Cx} {x f : Str} {C fI : Addr} {k : Nat} {fd : FuncData} {ps : List Str} {e : Expr} {te : TE} {p pos : Pos} (T : OexC X.K C) (hi : PySem.W.findIn X.K (.ref C) "__init__" = some (some (.ref fI))) (ht : PySem.W.typeIn X.K (.ref fI) = some (.type "function"))
   (F : FnOk X.prog X.w X.K X.mg X.base (L2N.CX X.prog X.w) k fI fd ps (spInit C f)) (room : Room (k + 1) X.A) (bnd : L2.Binds X.K fd ps []) (gx : Gl X x) (mx : X.mg x = some (.ref C)) (hdb : (x == ("__debug__" : Str)) = false) (he : PE X e te) (hst : notStar e = true) :
   PE X (.Call (.Name x p) [e] [] pos) (fun σ H Q => te σ H fun v H1 => ∀ a d, H1 a = none → H1 d = none → d ≠ a → Q (.ref a) (upd (upd (upd H1 a (exo a C none)) d (exd d [(f, v)])) a (exo a C (some d)))) := by
 refine ⟨fun pins s σ H Q I h => ?_⟩
 have pa : PA X [e] (tCons te tNil) := pa_cons he pa_nil (by cases e <;> first | rfl | cases hst)
 obtain ⟨nm, q, N, bs, bm, sn, sub, ab, col, dd, k0, k1, k2, k3, k5, lk, tail⟩ := T.cls
 refine wpAny_Call_Name_kw (ld_glob I gx mx ?_ hdb)
 let P : V → Hp → Prop := fun v H1 => ∀ a d, H1 a = none → H1 d = none → d ≠ a → Q (.ref a) (upd (upd (upd H1 a (exo a C none)) d (exd d [(f, v)])) a (exo a C (some d)))
 have arg := pa.run pos pins s σ H (fun vs H1 => match vs with
   | [v] => P v H1
   | _ => False) I h
 refine PySem.W.callWith_K (h₀ := X.base) I.ok.mod.kin T.kC (thn arg fun us s1 hh => ?_) (by cases e <;> first | rfl | cases hst) rfl
 obtain ⟨vs, H1, I1, r1, q1⟩ := hh
 cases r1 with
 | nil => exact q1.elim
 | @cons v u vs us ru rr =>
   cases rr with
   | cons _ _ => exact q1.elim
   | nil =>
     have q1 : P v H1 := q1
     refine ⟨I1.kIn, ?_⟩
     show wpAny _ _ (call (.ref C) [u]) _ _ _
     obtain ⟨hp, gs, dr, tk, os⟩ := s1
     have big : hp.objs.size ≤ hp.objs.size + 1 := Nat.le_succ _
     have fresh : H1 (hp.objs.size + 1) = none := I1.hok.fresh big
     obtain ⟨a0, hA⟩ : ∃ a0 : Addr, a0 = hp.objs.size + 1 := ⟨_, rfl⟩
     rw [← hA] at fresh big
     let hp1 : Heap := (hp.push (PySem.W.kdv_tup [u])).push (PySem.HandSPX.excO C hp.objs.size)
     have kept : ∀ b o, hp.get? b = some o → hp1.get? b = some o := fun b o z => Heap.get?_push_of_some _ (Heap.get?_push_of_some _ z)
     have there : hp1.get? a0 = some (PySem.HandSPX.excO C hp.objs.size) := by
       subst hA
       show ((hp.push (PySem.W.kdv_tup [u])).push (PySem.HandSPX.excO C hp.objs.size)).get? (hp.objs.size + 1) = _
       heap_get
     have I2 : Inv X pins σ (upd H1 a0 (exo a0 C none)) ⟨hp1, gs, dr, tk, os⟩ := I1.laid (t' := tk) (a := a0) (o := exo a0 C none) (h' := hp1) kept big (exo_ok there)
     have sp : spInit C f [.ref a0, v] (upd H1 a0 (exo a0 C none)) (fun z H2 => z = .non ∧ ∃ d, H1 d = none ∧ d ≠ a0 ∧ H2 = upd (upd (upd H1 a0 (exo a0 C none)) d (exd d [(f, v)])) a0 (exo a0 C (some d))) (fun _ _ _ => False) := by
       refine ⟨a0, v, rfl, upd_same, fun dx n ne => ⟨rfl, dx, ?_, ne, rfl⟩⟩
       rw [upd_ne ne] at n
       exact n
     have vals : Vals [V.ref a0, v] ([Value.ref a0, u] ++ []) := .cons rfl (.cons ru .nil)
     have hl : ([Value.ref a0, u] ++ []).length = ps.length := by
       have e2 := vals.length
       rw [F.len _ _ _ _ sp] at e2
       exact e2.symm
     subst hA
     refine wpAny_call (PySem.HandSPX.call_own PySem.F.excBase_ValueError (fun Y => PySem.HandSPX.refsVE_contains Y bm tail) (I1.kIn _ _ lk) (PySem.W.looks_findIn I1.kIn hi) (fun self => PySem.W.bind_fn I1.kIn self ht) (show 1 ≤ sizeLine by decide) ?_)
     have run := F.run _ X.stack _ _ ⟨[Value.ref (hp.objs.size + 1), u], []⟩ ([Value.ref (hp.objs.size + 1), u] ++ []) _ _ (fun _ _ _ => False) (room.make C [u] []) (I2.env0.make C [u] []) (bnd _ [Value.ref (hp.objs.size + 1), u] I2.kIn hl) vals sp
     refine codeAny_mono run fun r s' back => ?_
     cases r with
     | error er =>
       obtain ⟨_, _, _, _, _, _, _, _, _, _, _, _, bad⟩ := back
       exact bad.elim
     | ok fl =>
       cases fl with
       | ret w =>
         obtain ⟨z, H2, os2, bare2, un2, hok2, rz, ev, d, nd, ne, eH⟩ := back
         subst ev eH
         obtain ⟨h2, g2, d2, t2, os'⟩ := s'
         exact ⟨rz, .ref (hp.objs.size + 1), _, I2.call' (ch := []) os2 un2 hok2 bare2 (fun b z => absurd z (by simp)), rfl, q1 _ d fresh nd ne⟩
       | next => exact False.elim back
       | brk => exact False.elim back
       | cont => exact False.elim back
section
variable {W : Wd} {G : Stat} {S : Sc} {k : Nat} {h : Bool} {cc : CC} {X : Cx} {wx : WX}
theorem j_mkx (g : GX W G S k h cc X wx) {c : Nat} {x : Str} {e : Expr} {p pos : Pos} {fe : Env → Mem → R Z} (hpl : G.pl[c]? = some true) (hx : G.cn[c]? = some x) (hg : isGlob cc x = true) (hp : plainName x = true) (hst : notStar e = true) (he : PE X e (tD W S wx fe)) :
   PE X (.Call (.Name x p) [e] [] pos) (tD W S wx fun ρ M => if h then .bad else (fe ρ M).bind fun z M1 => match z with
     | .d (.str y) => .ok (.d (erD c y)) M1
     | _ => .bad) := by
 cases h with
 | true => exact j_bad fun ρ M => if_pos rfl
 | false =>
   obtain ⟨C, h1, h2, h3, h4, h5, h6⟩ := g.ok.cls c x hx
   obtain ⟨q1, q2, _⟩ := plain_dbg hp
   have st : StrC W.K C := ⟨g.ok.str c C hpl h2, h5⟩
   refine (pe_excT PySem.F.excBase_ValueError (by rw [g.eK]; exact h4 hpl) (by rw [g.eM]; exact h1) (by rw [g.eK]; exact h3) (g.gl hg) he hst q1).imp fun σ H Q hq => ?_
   obtain ⟨ι, ρ, M, rl, e⟩ := hq
   dsimp only at e
   rw [if_neg Bool.false_ne_true] at e
   refine ⟨ι, ρ, M, rl, e.step fun z M1 ι1 v1 H1 ex m d e1 => ?_⟩
   cases d with
   | r _ => exact e1.elim
   | f _ => exact e1.elim
   | d d =>
     cases d with
     | str y =>
       refine ⟨y, rfl, fun a t na nt hat => ?_⟩
       have m1 := m.new (o := .tup [.str y]) nt
       have na' : upd H1 t (.tup [.str y]) a = none := by rw [upd_ne hat]; exact na
       have m2 := m1.new (o := exT a C t) na'
       refine e1 ι1 _ _ ((Ext.new nt).trans (Ext.new na')) m2 (.d (.er0 ⟨fun z => m.has a z na, upd_same⟩ ⟨fun z => m.has t z nt, by rw [upd_ne (Ne.symm hat), upd_same]⟩ ⟨by rw [m.f]; exact h2, st⟩))
     | _ => exact e1.elim
theorem j_mki (g : GX W G S k h cc X wx) {c : Nat} {x f : Str} {e : Expr} {p pos : Pos} {fe : Env → Mem → R Z} (hfl : G.fl[c]? = some (some f)) (hx : G.cn[c]? = some x) (hg : isGlob cc x = true) (hp : plainName x = true) (hst : notStar e = true) (he : PE X e (tD W S wx fe)) :
   PE X (.Call (.Name x p) [e] [] pos) (tD W S wx fun ρ M => if h || decide (k < 2) then .bad else (fe ρ M).bind fun z M1 => match z with
     | .d d => .ok (.d (erI c f d)) M1
     | _ => .bad) := by
 cases h with
 | true => exact j_bad fun ρ M => if_pos rfl
 | false =>
   by_cases hk : k < 2
   · exact j_bad fun ρ M => if_pos (by rw [decide_eq_true hk]; rfl)
   · obtain ⟨C, h1, h2, h3, h4, h5, h6⟩ := g.ok.cls c x hx
     obtain ⟨C', fI, fd, ps, o1, o2, o3, o4, o5, o6⟩ := g.ok.own c f hfl
     rw [h2] at o1
     cases o1
     obtain ⟨q1, q2, _⟩ := plain_dbg hp
     have rm : Room (1 + 1) X.A := ⟨(g.calm rfl).2.hd, by have := (g.calm rfl).2.dp; omega, by have := (g.calm rfl).2.un; omega⟩
     rw [← g.eP, ← g.eW, ← g.eK, ← g.eM, ← g.eB] at o5
     rw [← g.eK] at o2 o3 o4 o6
     refine (pe_oexV (p := p) (pos := pos) o2 o3 o4 o5 rm o6 (g.gl hg) (by rw [g.eM]; exact h1) q1 he hst).imp fun σ H Q hq => ?_
     obtain ⟨ι, ρ, M, rl, e⟩ := hq
     dsimp only at e
     rw [if_neg (by simp [hk])] at e
     refine ⟨ι, ρ, M, rl, e.step fun z M1 ι1 v1 H1 ex m dd e1 => ?_⟩
     cases dd with
     | r _ => exact e1.elim
     | f _ => exact e1.elim
     | @d _ y dv =>
       intro a d na nd ne
       have e1 : EndG W wx σ ι1 H1 (DenZ W.K) Q (.ok (.d (erI c f y)) M1) := e1
       have x1 : Ext ι1 H1 ι1 (upd H1 d (exd d [(f, v1)])) := Ext.new nd
       have na' : upd H1 d (exd d [(f, v1)]) a = none := by rw [upd_ne (Ne.symm ne)]; exact na
       have x2 := Ext.new (ι := ι1) (o := exo a C (some d)) na'
       have eH : upd (upd (upd H1 a (exo a C none)) d (exd d [(f, v1)])) a (exo a C (some d)) = upd (upd H1 d (exd d [(f, v1)])) a (exo a C (some d)) := by
         funext b
         by_cases hb : b = a
         · rw [hb, upd_same, upd_same]
         · rw [upd_ne hb, upd_ne hb]
           by_cases hc : b = d
           · rw [hc, upd_same, upd_same]
           · rw [upd_ne hc, upd_ne hc, upd_ne hb]
       rw [eH]
       exact e1 ι1 _ _ (x1.trans x2) ((m.new nd).new na') (.d (.er1 ⟨fun z => m.has a z na, upd_same⟩ ⟨fun z => m.has d z nd, by rw [upd_ne ne, upd_same]⟩ (by rw [m.f]; exact h2) (dv.mono (x1.trans x2))))
theorem j_atx (g : GX W G S k h cc X wx) {f : Str} {y : Expr} {pos : Pos} {fe : Env → Mem → R Z} (hs : isSub y = true) (hf : some f ∈ G.fl) (he : PE X y (tD W S wx fe)) :
   PE X (.Attribute y f pos) (tD W S wx fun ρ M => if h then .bad else (fe ρ M).bind fun z M1 => match z with
     | .d d => R.of ((fldD f d).map .d) M1
     | _ => .bad) := by
 cases h with
 | true => exact j_bad fun ρ M => if_pos rfl
 | false =>
   refine ⟨fun pins s σ H Q I hq => ?_⟩
   obtain ⟨ι, ρ, M, rl, e⟩ := hq
   dsimp only at e
   rw [if_neg Bool.false_ne_true] at e
   refine attr_of (by cases y <;> first | rfl | cases hs) (thn (he.run pins s σ H (fun x H1 => ∃ d ι1 M1, Ext ι H ι1 H1 ∧ MI W ι1 H1 M1 ∧ Den W.K ι1 H1 x d ∧ EndG W wx σ ι1 H1 (DenZ W.K) Q (R.of ((fldD f d).map .d) M1)) I ⟨ι, ρ, M, rl, e.step fun z M1 ι1 v1 H1 ex m dd e1 => ?_⟩) fun w s1 hh => ?_)
   · cases dd with
     | r _ => exact e1.elim
     | f _ => exact e1.elim
     | d dv => exact ⟨_, ι1, M1, ex, m, dv, e1⟩
   · obtain ⟨x, H1, I1, rx, d, ι1, M1, ex, m, dv, e1⟩ := hh
     obtain ⟨z, ez, e2⟩ := EndG.of e1
     cases dv with
     | @er1 a dx C c f' v d' h1 h2 h3 h4 =>
       have ez : (if f' = f then some d' else none) = some z := ez
       split at ez
       case isFalse => cases ez
       rename_i hff
       cases ez
       subst hff
       obtain rfl : w = Value.ref a := rx
       obtain ⟨t1, hget⟩ := exo_at I1.hok h1.2
       obtain ⟨mA, hns, rel⟩ := exd_at I1.hok h2.2
       obtain ⟨od, ho, hlk⟩ := lookIn_ns hns
       obtain ⟨z, hz2, rz⟩ := RelO.some_of (v := v) (o := mA f') (by have := rel f'; simpa [List.lookup] using this)
       have J : PySem.W.InstAt s1.heap a { cls := .ref C, dict := some dx, data := .fields #[.ref t1, .none, .none, .none, .bool false, .none] } C (some od) := ⟨hget, rfl, rfl, ho⟩
       obtain ⟨C', hC', EC⟩ := g.ok.exc c
       obtain ⟨C2, hC2, hno⟩ := g.ok.nof _ hf f' rfl c
       rw [m.f] at h3
       have h3 : W.cv c = .ref C := h3
       rw [h3] at hC' hC2
       cases hC'
       cases hC2
       rw [← g.eK] at EC hno
       exact HandSPX.exc_get I1.kIn J EC.hg EC.hk EC.hs (PySem.W.findObj_own EC.hd hno rfl (by rw [hlk, hz2])) (handed_of rz) ⟨v, H1, I1.tok _, rz, e2 v H1 (Ext.refl _ _) m h4⟩
     | _ => cases ez
end
end Zt
namespace Zt
open PySem PySem.Spec PyProof.Rows L2
section
variable {K : PySem.W.Frag} {ι ι' : Io} {H H' : Hp}
theorem aside1 {p a : Addr} {o u : HO} (hp : ∃ vs, H p = some (.dK vs)) (hu : ∀ vs, u ≠ .dK vs) (h : a ∉ ι ∧ H a = some u) : a ∉ ι.add p ∧ (upd H p o) a = some u := by
 have ne : a ≠ p := fun e => by
   obtain ⟨vs, q⟩ := hp
   rw [← e, h.2] at q
   exact hu _ (Option.some.inj q)
 exact ⟨fun z => (Io.mem_add z).elim h.1 ne, by rw [upd_ne ne]; exact h.2⟩
theorem ndK_lst {xs : List V} : ∀ vs, HO.lst xs ≠ .dK vs := fun _ z => nomatch z
theorem ndK_tup {xs : List V} : ∀ vs, HO.tup xs ≠ .dK vs := fun _ z => nomatch z
theorem ndK_ext {φ : Heap → Prop} : ∀ vs, HO.ext φ ≠ .dK vs := fun _ z => nomatch z
mutual
theorem Den.aside {p : Addr} {o : HO} (hp : ∃ vs, H p = some (.dK vs)) : ∀ {v : V} {d : D}, Den K ι H v d → Den K (ι.add p) (upd H p o) v d
 | _, _, .non => .non
 | _, _, .bl b => .bl b
 | _, _, .int i => .int i
 | _, _, .str x => .str x
 | _, _, .lst h l => .lst (aside1 hp ndK_lst h) (DenL.aside hp l)
 | _, _, .tup h l => .tup (h.imp (aside1 hp ndK_tup) id) (DenL.aside hp l)
 | _, _, .er0 h1 h2 h3 => .er0 (aside1 hp ndK_ext h1) (aside1 hp ndK_tup h2) h3
 | _, _, .er1 h1 h2 h3 h4 => .er1 (aside1 hp ndK_ext h1) (aside1 hp ndK_ext h2) h3 (Den.aside hp h4)
theorem DenL.aside {p : Addr} {o : HO} (hp : ∃ vs, H p = some (.dK vs)) : ∀ {vs : List V} {ds : List D}, DenL K ι H vs ds → DenL K (ι.add p) (upd H p o) vs ds
 | _, _, .nil => .nil
 | _, _, .cons h l => .cons (Den.aside hp h) (DenL.aside hp l)
end
theorem MOk.aside {p a : Addr} {o : HO} {u : MO} (hp : ∃ vs, H p = some (.dK vs)) (hn : a ≠ p) (h : MOk K ι H a u) : MOk K (ι.add p) (upd H p o) a u := by
 cases u with
 | lst ds =>
   obtain ⟨xs, q, l⟩ := h
   exact ⟨xs, by rw [upd_ne hn]; exact q, l.aside hp⟩
 | frz ds =>
   obtain ⟨o, xs, q, l⟩ := h
   exact ⟨o, xs, by rw [upd_ne hn]; exact q, ⟨l.k, l.kd.aside hp, l.v.aside hp, l.nd, l.l, l.m⟩⟩
 | dic ds =>
   obtain ⟨xs, q, l⟩ := h
   exact ⟨xs, by rw [upd_ne hn]; exact q, l.k, l.v.aside hp⟩
 | dit ds =>
   obtain ⟨xs, q, l⟩ := h
   exact ⟨xs, by rw [upd_ne hn]; exact q, ⟨l.k, l.kd.aside hp, l.v.aside hp, l.nd, l.l, l.m⟩⟩
 | ins c ds =>
   obtain ⟨xs, q⟩ := h
   exact ⟨xs, by rw [upd_ne hn]; exact q⟩
theorem MRel.aside {M : Mem} {p : Addr} {o : HO} {u : MO} (m : MRel K ι H M) (hp : ∃ vs, H p = some (.dK vs)) (hn : p ∉ ι) (l : MOk K (ι.add p) (upd H p o) p u) : MRel K (ι.add p) (upd H p o) (M ++ [u]) := by
 refine ⟨by simp [m.len, Io.add], ?_, fun a ha => ?_, fun n u' a e1 e2 => ?_⟩
 · refine List.nodup_append.mpr ⟨m.nd, by simp, fun a ha b hb => ?_⟩
   have : b = p := by simpa using hb
   rw [this]
   exact fun z => hn (.inl (by rw [← z]; exact ha))
 · obtain ⟨w, e, t⟩ := m.exl a ha
   exact ⟨w, by rw [upd_ne (fun z => hn (.inr (by rw [← z]; exact ha)))]; exact e, t⟩
 · have e2 : (ι.pl ++ [p])[n]? = some a := e2
   by_cases hl : n < ι.pl.length
   · rw [List.getElem?_append_left hl] at e2
     rw [List.getElem?_append_left (by rw [← m.len]; exact hl)] at e1
     exact (m.ok n u' a e1 e2).aside hp fun z => hn (.inl (by rw [← z]; exact List.mem_of_getElem? e2))
   · have hl : ι.pl.length ≤ n := Nat.le_of_not_lt hl
     rw [List.getElem?_append_right hl] at e2
     rw [List.getElem?_append_right (by rw [← m.len]; exact hl)] at e1
     have h0 : n - ι.pl.length = 0 := by
       have := (List.getElem?_eq_some_iff.mp e2).1
       simp at this
       omega
     rw [h0] at e2
     rw [show n - M.length = 0 by rw [← m.len]; exact h0] at e1
     cases Option.some.inj e1
     have ea : p = a := Option.some.inj e2
     rw [← ea]
     exact l
end
theorem MI.aside {W : Wd} {ι : Io} {H : Hp} {M : Mem} {p : Addr} {o : HO} {u : MO} (m : MI W ι H M) (hp : ∃ vs, H p = some (.dK vs)) (hn : p ∉ ι) (l : MOk W.K (ι.add p) (upd H p o) p u) : MI W (ι.add p) (upd H p o) (M ++ [u]) :=
 ⟨m.m.aside hp hn l, m.f, tabs_upd m.t (fun q hq z => by
   obtain ⟨ps, e, _⟩ := m.t q hq
   obtain ⟨vs, q2⟩ := hp
   rw [z, q2] at e
   cases e) (fun c q e z => by
   obtain ⟨vs, q2⟩ := hp
   rw [z, q2] at e
   cases e), fun q hq z => by
   rcases Io.mem_add z with z | z
   · exact m.o q hq z
   · obtain ⟨ps, e, _⟩ := m.t q hq
     obtain ⟨vs, q2⟩ := hp
     have : q.1 = p := z
     rw [this, q2] at e
     cases e⟩
theorem put_new {kvs : List (L2.Key × V)} {k : L2.Key} {v : V} (h : k ∉ kvs.map (·.1)) : putK kvs k v = kvs ++ [(k, v)] := by
 unfold putK
 rw [if_neg]
 intro z
 obtain ⟨p, hp, e⟩ := List.any_eq_true.mp z
 exact h (List.mem_map.mpr ⟨p, hp, of_decide_eq_true e⟩)
theorem merge_nd : ∀ {more kvs : List (L2.Key × V)}, ((kvs ++ more).map (·.1)).Nodup → mergeK kvs more = kvs ++ more
 | [], kvs, _ => by simp [mergeK]
 | p :: more, kvs, h => by
   have hn : p.1 ∉ kvs.map (·.1) := fun z => by
     rw [List.map_append, List.map_cons] at h
     exact (List.nodup_append.mp h).2.2 _ z _ (List.mem_cons_self ..) rfl
   show mergeK (putK kvs p.1 p.2) more = _
   rw [put_new hn, merge_nd (by rw [List.append_assoc]; exact h), List.append_assoc]
   rfl
section
variable {W : Wd} {G : Stat} {S : Sc} {k : Nat} {h : Bool} {cc : CC} {X : Cx} {wx : WX}
inductive TrR (W : Wd) (S : Sc) (wx : WX) : List Str → List (TE × TE) → (Env → Mem → R (List Z)) → Prop
 | nil : TrR W S wx [] [] fun _ M => .ok [] M
 | cons {s : Str} {ss : List Str} {trs : List (TE × TE)} {f : Env → Mem → R Z} {r : Env → Mem → R (List Z)} : TrR W S wx ss trs r → TrR W S wx (s :: ss) ((tC (.str s), tD W S wx f) :: trs) fun ρ M => (f ρ M).bind fun x M1 => (r ρ M1).bind fun xs M2 => .ok (x :: xs) M2
theorem rb_assoc {α β γ : Type} {x : R α} {f : α → Mem → R β} {g : β → Mem → R γ} : (x.bind f).bind g = x.bind fun a M => (f a M).bind g := by cases x <;> rfl
theorem tr_go {ss : List Str} {trs : List (TE × TE)} {r : Env → Mem → R (List Z)} (t : TrR W S wx ss trs r) : ∀ {ι : Io} {σ : St} {H : Hp} {ρ : Env} {M : Mem} {γ δ : Type} {rel2 : Io → Hp → δ → γ → Prop} {Q2 : δ → Hp → Prop} {f : List Z → Mem → R γ} {Q : List (V × V) → Hp → Prop}, Rl W S ι σ H ρ M → EndG W wx σ ι H rel2 Q2 ((r ρ M).bind f) →
   (∀ zs M1 ι1 vs H1, r ρ M = .ok zs M1 → Ext ι H ι1 H1 → MI W ι1 H1 M1 → DenZL W.K ι1 H1 vs zs → vs.length = ss.length → EndG W wx σ ι1 H1 rel2 Q2 (f zs M1) → Q ((ss.map V.str).zip vs) H1) → tPairs trs σ H Q := by
 induction t with
 | nil =>
   intro ι σ H ρ M γ δ rel2 Q2 f Q rl e g
   exact g [] M ι [] H rfl (Ext.refl ι H) rl.m .nil rfl e
 | @cons s ss trs f0 r t ih =>
   intro ι σ H ρ M γ δ rel2 Q2 f Q rl e g
   have e : EndG W wx σ ι H rel2 Q2 ((f0 ρ M).bind fun x M1 => (r ρ M1).bind fun xs M2 => f (x :: xs) M2) := by
     have : (((f0 ρ M).bind fun x M1 => (r ρ M1).bind fun xs M2 => .ok (x :: xs) M2).bind f) = ((f0 ρ M).bind fun x M1 => (r ρ M1).bind fun xs M2 => f (x :: xs) M2) := by
       rw [rb_assoc]
       congr 1
       funext x M1
       rw [rb_assoc]
       rfl
     rw [← this]
     exact e
   refine ⟨ι, ρ, M, rl, stepE e fun z M1 ι1 v1 H1 q1 ex m d e1 => ?_⟩
   have rl1 := rl.go ex m
   refine ih rl1 e1 fun zs M2 ι2 vs H2 q2 ex2 m2 dz hl e2 => ?_
   exact g (z :: zs) M2 ι2 (v1 :: vs) H2 (by show ((f0 ρ M).bind fun x M1 => (r ρ M1).bind fun xs M2 => R.ok (x :: xs) M2) = _; rw [q1]; show ((r ρ M1).bind fun xs M2 => R.ok (z :: xs) M2) = _; rw [q2]; rfl) (ex.trans ex2) m2 (.cons (d.mono ex2) dz) (by rw [List.length_cons, List.length_cons, hl]) e2
theorem j_mdc {ks : List Str} {ys : List (Option Expr)} {zs : List Expr} {trs : List (TE × TE)} {r : Env → Mem → R (List Z)} {pos : Pos} (hp : PPs X pos ys zs trs) (t : TrR W S wx ks trs r) (hall : ys.all (·.isSome) = true) (hl : ys.length = zs.length) (hk : ys.length = ks.length) (h1 : 1 ≤ ks.length) (h15 : ks.length ≤ 15) (hn : ks.Nodup) :
   PE X (.Dict ys zs pos) (tD W S wx fun ρ M => (r ρ M).bind fun zs M1 => match dsOf zs with
     | some ds => .ok (.r M1.length) (M1 ++ [.dic ((ks.map Sum.inr).zip ds)])
     | none => .bad) := by
 refine (pe_disp hp hall hl (fun z => by rw [z] at hk; simp at hk; omega) (by rw [hk]; exact h15)).imp fun σ H Q hq => ?_
 obtain ⟨ι, ρ, M, rl, e⟩ := hq
 dsimp only at e
 intro p hp0
 have x0 : Ext ι H (ι.lock p) (upd H p (.dK [])) := Ext.lock hp0
 have pn : p ∉ ι := fun z => rl.m.has p z hp0
 refine tr_go t (rl.go x0 (rl.m.lock nt_dK hp0)) (EndG.mono x0 e) fun zs M1 ι1 vs H1 q0 ex m dz hlen e1 => ?_
 have pk := ex.keep p _ upd_same nt_dK fun z => pn (.inl z)
 refine ⟨pk.2, ((ks.map (Sum.inr : Str → L2.Key)).zip vs), ?_, by rw [List.length_zip, List.length_map]; omega, ?_⟩
 · rw [List.zip_map_left, List.zip_map_left, List.map_map]
   rfl
 · have hkeys : (((ks.map (Sum.inr : Str → L2.Key)).zip vs).map (·.1)) = ks.map Sum.inr := List.map_fst_zip (by rw [List.length_map]; omega)
   rw [merge_nd (by rw [List.nil_append, hkeys]; exact List.pairwise_map.mpr (hn.imp fun q z => q (by cases z; rfl)))]
   rw [List.nil_append]
   cases q2 : dsOf zs with
   | none => rw [q2] at e1; exact e1.elim
   | some ds =>
     rw [q2] at e1
     have dl := dz.data q2
     let ι2 : Io := ⟨ι1.pl, ι.ex, ι1.fa⟩
     have sub : ∀ a, a ∈ ι2 → a ∈ ι1 := fun a ha => by
       rcases ha with z | z
       · exact .inl z
       · exact .inr (ex.exs a (List.mem_cons_of_mem _ z))
     have pn2 : p ∉ ι2 := fun z => by
       rcases z with z | z
       · exact pk.1 z
       · exact pn (.inr z)
     have m2 : MI W ι2 H1 M1 := m.anti rfl rfl fun a z => ex.exs a (List.mem_cons_of_mem _ z)
     have dl2 : DenL W.K ι2 H1 vs ds := dl.anti sub rfl
     have hp2 : ∃ vs, H1 p = some (.dK vs) := ⟨[], pk.2⟩
     let H2 := upd H1 p (.dK ((ks.map (Sum.inr : Str → L2.Key)).zip vs))
     have kv : KvD W.K (ι2.add p) H2 ((ks.map (Sum.inr : Str → L2.Key)).zip vs) ((ks.map Sum.inr).zip ds) := by
       refine ⟨?_, ?_⟩
       · rw [List.map_fst_zip (by rw [List.length_map]; omega), List.map_fst_zip (by rw [List.length_map, ← dl.length]; omega)]
       · rw [List.map_snd_zip (by rw [List.length_map]; omega), List.map_snd_zip (by rw [List.length_map, ← dl.length]; omega)]
         exact dl2.aside hp2
     have m3 : MI W (ι2.add p) H2 (M1 ++ [.dic ((ks.map Sum.inr).zip ds)]) := m2.aside hp2 pn2 ⟨_, upd_same, kv⟩
     rw [q0] at e
     have e : EndG W wx σ ι H (DenZ W.K) Q (match dsOf zs with
       | some ds => .ok (.r M1.length) (M1 ++ [.dic ((ks.map Sum.inr).zip ds)])
       | none => .bad) := e
     rw [q2] at e
     have x1 := x0.trans ex
     refine e (ι2.add p) _ H2 ⟨?_, fun a z => z, fun a o q nt n z => ?_, fun a o q nt n => ?_, x1.fns, fun a o u q => by
       rw [show H2 = upd H1 p _ from rfl, upd_ne (ne_of_none q hp0)]
       exact x1.fz a o u q⟩ m3 (.r ?_)
     · obtain ⟨l, el⟩ := x1.suf
       exact ⟨l ++ [p], by
         show ι1.pl ++ [p] = _
         rw [el, List.append_assoc]⟩
     · have ne : a ≠ p := ne_of_none q hp0
       rcases Io.mem_add z with z | z
       · rcases z with z | z
         · exact (x1.keep a o q nt fun w => n (.inl w)).1 z
         · exact n (.inr z)
       · exact ne z
     · have ne : a ≠ p := ne_of_none q hp0
       obtain ⟨k1, k2⟩ := x1.keep a o q nt n
       refine ⟨fun z => ?_, by rw [show H2 = upd H1 p _ from rfl, upd_ne ne]; exact k2⟩
       rcases List.mem_append.mp (show a ∈ ι1.pl ++ [p] from z) with z | z
       · exact k1 z
       · exact ne (by simpa using z)
     · rw [← m2.m.len]
       show (ι1.pl ++ [p])[ι1.pl.length]? = some p
       rw [List.getElem?_append_right (Nat.le_refl _)]
       simp
end
end Zt
set_option maxHeartbeats 4000000
namespace Zt
open PySem PySem.Spec PyProof.Rows L2
theorem _root_.L2.PE.to {W : Wd} {S : Sc} {wx : WX} {X : Cx} {x : Expr} {f g : Env → Mem → R Z} (h : PE X x (tD W S wx f)) (e : ∀ ρ M, g ρ M = f ρ M) : PE X x (tD W S wx g) := by
 have : g = f := funext fun ρ => funext fun M => e ρ M
 rw [this]
 exact h
theorem _root_.L2.PA.to {W : Wd} {S : Sc} {wx : WX} {X : Cx} {x : List Expr} {f g : Env → Mem → R (List Z)} (h : PA X x (tDs W S wx f)) (e : ∀ ρ M, g ρ M = f ρ M) : PA X x (tDs W S wx g) := by
 have : g = f := funext fun ρ => funext fun M => e ρ M
 rw [this]
 exact h
theorem _root_.L2.PT.to {W : Wd} {S : Sc} {wx : WX} {X : Cx} {x : Expr} {f g : Env → Mem → R Bool} (h : PT X x (tDT W S wx f)) (e : ∀ ρ M, g ρ M = f ρ M) : PT X x (tDT W S wx g) := by
 have : g = f := funext fun ρ => funext fun M => e ρ M
 rw [this]
 exact h
theorem _root_.L2.PW.to {W : Wd} {S : Sc} {wx : WX} {X : Cx} {x : Expr} {f g : Env → Mem → R Bool} (h : PW X x (tDT W S wx f)) (e : ∀ ρ M, g ρ M = f ρ M) : PW X x (tDT W S wx g) := by
 have : g = f := funext fun ρ => funext fun M => e ρ M
 rw [this]
 exact h
theorem _root_.L2.PTs.to {W : Wd} {S : Sc} {wx : WX} {X : Cx} {x : List Expr} {f g : Env → Mem → R Bool} (h : PTs X x (tDT W S wx f)) (e : ∀ ρ M, g ρ M = f ρ M) : PTs X x (tDT W S wx g) := by
 have : g = f := funext fun ρ => funext fun M => e ρ M
 rw [this]
 exact h
theorem _root_.L2.PO.to {W : Wd} {S : Sc} {wx : WX} {X : Cx} {x : Option Expr} {f g : Env → Mem → R (Option Int)} (h : PO X x (tDO W S wx f)) (e : ∀ ρ M, g ρ M = f ρ M) : PO X x (tDO W S wx g) := by
 have : g = f := funext fun ρ => funext fun M => e ρ M
 rw [this]
 exact h
theorem _root_.Hh.PIM.to {W : Wd} {S : Sc} {wx : WX} {X : Cx} {md : Cx → Prop} {t x : Expr} {f g : Env → Mem → R (List Z)} (h : Hh.PIM md X t x (iZ W S wx f)) (e : ∀ ρ M, g ρ M = f ρ M) : Hh.PIM md X t x (iZ W S wx g) := by
 have : g = f := funext fun ρ => funext fun M => e ρ M
 rw [this]
 exact h
theorem _root_.L2.PS.to {W : Wd} {S : Sc} {wx : WX} {X : Cx} {x : Stmt} {f g : Env → Mem → O} (h : PS X x (tS W S wx f)) (e : ∀ ρ M, g ρ M = f ρ M) : PS X x (tS W S wx g) := by
 have : g = f := funext fun ρ => funext fun M => e ρ M
 rw [this]
 exact h
theorem _root_.L2.PSs.to {W : Wd} {S : Sc} {wx : WX} {X : Cx} {x : List Stmt} {f g : Env → Mem → O} (h : PSs X x (tS W S wx f)) (e : ∀ ρ M, g ρ M = f ρ M) : PSs X x (tS W S wx g) := by
 have : g = f := funext fun ρ => funext fun M => e ρ M
 rw [this]
 exact h
theorem bad_s {W : Wd} {S : Sc} {wx : WX} {X : Cx} {x : Stmt} {f : Env → Mem → O} (hf : ∀ ρ M, f ρ M = .bad) : PS X x (tS W S wx f) := ⟨fun pins s σ H D I hq => by
 obtain ⟨ι, ρ, M, rl, e⟩ := hq
 rw [hf] at e
 exact e.elim⟩
theorem notSet_m {r : Expr} {o : CmpOp} (h : notSet r = true) : behindInMarks o r = false := by
 cases r <;> first | (cases o <;> rfl) | cases h
theorem notSet_f {r : Expr} (h : notSet r = true) (env : PySem.Env) : ∀ x, foldedSetIterable r env x = pure x := by
 intro x
 cases r <;> first | rfl | cases h
theorem notSet_l {r b : Expr} {o o' : CmpOp} (h : notSet r = true) : lastMarks [o, o'] [b, r] = false := by
 cases r <;> first | (cases o' <;> rfl) | cases h
theorem pts_no {W : Wd} {S : Sc} {wx : WX} {X : Cx} : PTs X [] (tDT W S wx fun _ M => .ok true M) := ⟨fun pins s σ H Q I hq => pts_nil.run pins s σ H Q I (by
 obtain ⟨ι, ρ, M, rl, e⟩ := hq
 exact EndG.now e rl.m rfl)⟩
theorem cfg_sub (W : Wd) (k : Nat) (h : Bool) : (W.cfg k h).sub = W.sub := by cases k <;> rfl
theorem evEs_len {C : Cfg} : ∀ {es : Es} {ys : List Expr} {G : Stat} {cc : CC}, chkEs G cc es ys = true → ∀ ρ M zs M', evEs C es ρ M = .ok zs M' → zs.length = ys.length
 | .nil, ys, G, cc, h, ρ, M, zs, M', e => by
   rw [evEs] at e
   cases e
   unfold chkEs at h
   cases ys with
   | nil => rfl
   | cons _ _ => cases h
 | .cons a r, ys, G, cc, h, ρ, M, zs, M', e => by
   unfold chkEs at h
   cases ys with
   | nil => cases h
   | cons y ys =>
     simp only [Bool.and_eq_true] at h
     rw [evEs] at e
     cases q : evE C a ρ M with
     | bad => rw [q] at e; cases e
     | ex _ _ => rw [q] at e; cases e
     | ok x M1 =>
       rw [q] at e
       dsimp only [R.bind] at e
       cases q2 : evEs C r ρ M1 with
       | bad => rw [q2] at e; cases e
       | ex _ _ => rw [q2] at e; cases e
       | ok xs M2 =>
         rw [q2] at e
         cases e
         have := evEs_len h.2 ρ M1 xs M' q2
         simp [this]
section
variable {W : Wd} {G : Stat}
theorem pe_and1 {X : Cx} {a : Expr} {ta : TE} {pos : Pos} (ha : PE X a ta) : PE X (.BoolOp .And [a] pos) ta := ⟨fun pins s σ H Q I hq => ha.run pins s σ H Q I hq⟩
theorem pe_or1 {X : Cx} {a : Expr} {ta : TE} {pos : Pos} (ha : PE X a ta) : PE X (.BoolOp .Or [a] pos) ta := ⟨fun pins s σ H Q I hq => ha.run pins s σ H Q I hq⟩
theorem chkEs_len : ∀ {es : Es} {ys : List Expr} {cc : CC}, chkEs G cc es ys = true → (match es with | .nil => ys = [] | .cons _ _ => ys ≠ [])
 | .nil, ys, cc, h => by
   unfold chkEs at h
   cases ys with
   | nil => rfl
   | cons _ _ => cases h
 | .cons a r, ys, cc, h => by
   unfold chkEs at h
   cases ys with
   | nil => cases h
   | cons y ys => exact fun z => nomatch z
theorem chkKs_some : ∀ {ks : List Str} {ys : List (Option Expr)}, chkKs ks ys = true → ys.all (·.isSome) = true
 | [], [], _ => rfl
 | [], _ :: _, h => by cases h
 | _ :: _, [], h => by cases h
 | s :: ss, y :: ys, h => by
   unfold chkKs at h
   split at h
   · rename_i h1 h2
     cases h1
   · rename_i s' ss' t kk pp r' h1 h2
     cases h1
     cases h2
     rw [Bool.and_eq_true] at h
     rw [List.all_cons, chkKs_some h.2]
     rfl
   · cases h
mutual
theorem sE : ∀ (e : E) {S : Sc} {k : Nat} {h : Bool} {cc : CC} {X : Cx} {wx : WX} (_ : GX W G S k h cc X wx) {x : Expr}, chkE G cc e x = true → PE X x (tD W S wx (evE (W.cfg k h) e))
 | .v i, S, k, h, cc, X, wx, g, x, hc => by
   unfold chkE at hc
   split at hc
   · simp only [Bool.and_eq_true, decide_eq_true_eq] at hc
     exact (j_v g hc.1.1 hc.1.2 hc.2).to fun ρ M => by rw [evE]
   · cases hc
 | .g i, S, k, h, cc, X, wx, g, x, hc => by
   unfold chkE at hc
   split at hc
   · simp only [Bool.and_eq_true, decide_eq_true_eq] at hc
     exact (j_g g hc.1.1 hc.1.2 hc.2).to fun ρ M => by
       rw [evE]
       cases k <;> rfl
   · cases hc
 | .kn, S, k, h, cc, X, wx, g, x, hc => by
   unfold chkE at hc
   split at hc
   · exact (j_c pe_non fun _ _ => .non).to fun ρ M => by rw [evE]
   · cases hc
 | .kb b, S, k, h, cc, X, wx, g, x, hc => by
   unfold chkE at hc
   split at hc
   · rw [of_decide_eq_true hc]
     exact (j_c pe_bl fun _ _ => .bl _).to fun ρ M => by rw [evE]
   · cases hc
 | .ki i, S, k, h, cc, X, wx, g, x, hc => by
   unfold chkE at hc
   split at hc
   · rw [of_decide_eq_true hc]
     exact (j_c pe_int fun _ _ => .int _).to fun ρ M => by rw [evE]
   · cases hc
 | .ks s, S, k, h, cc, X, wx, g, x, hc => by
   unfold chkE at hc
   split at hc
   · rw [of_decide_eq_true hc]
     exact (j_c pe_str fun _ _ => .str _).to fun ρ M => by rw [evE]
   · cases hc
 | .neg a, S, k, h, cc, X, wx, g, x, hc => by
   unfold chkE at hc
   split at hc
   · exact (j_neg (sE a g hc)).to fun ρ M => by rw [evE] <;> rfl
   · cases hc
 | .never, S, k, h, cc, X, wx, g, x, hc => j_bad fun ρ M => by rw [evE]
 | .bin op a b, S, k, h, cc, X, wx, g, x, hc => by
   unfold chkE at hc
   split at hc
   · simp only [Bool.and_eq_true, decide_eq_true_eq] at hc
     obtain ⟨⟨rfl, h1⟩, h2⟩ := hc
     exact (j_op2 (op_binZ g.eK op) (sE a g h1) (sE b g h2)).to fun ρ M => by rw [evE]
   · cases hc
 | .madd a b, S, k, h, cc, X, wx, g, x, hc => by
   unfold chkE at hc
   split at hc
   · simp only [Bool.and_eq_true] at hc
     exact (j_op2 op_addM (sE a g hc.1) (sE b g hc.2)).to fun ρ M => by rw [evE]
   · cases hc
 | .cmp op a b, S, k, h, cc, X, wx, g, x, hc => by
   unfold chkE at hc
   split at hc
   · simp only [Bool.and_eq_true, decide_eq_true_eq] at hc
     obtain ⟨⟨⟨rfl, h0⟩, h1⟩, h2⟩ := hc
     exact (j_cmp (op_cmpZ g.eK g.units op) (sE a g h1) (sE b g h2) (notSet_m h0)).to fun ρ M => by rw [evE] <;> rfl
   · cases hc
 | .chain o1 o2 a b c, S, k, h, cc, X, wx, g, x, hc => by
   unfold chkE at hc
   split at hc
   · simp only [Bool.and_eq_true, decide_eq_true_eq] at hc
     obtain ⟨⟨⟨⟨⟨rfl, rfl⟩, h0⟩, h1⟩, h2⟩, h3⟩ := hc
     exact (j_chain (op_cmpZ g.eK g.units o1) (op_cmpZ g.eK g.units o2) (sE a g h1) (sE b g h2) (sE c g h3) (notSet_l h0)).to fun ρ M => by rw [evE]
   · cases hc
 | .and es, S, k, h, cc, X, wx, g, x, hc => by
   unfold chkE at hc
   split at hc
   · exact (sAnd es g hc).to fun ρ M => by rw [evE]
   · cases hc
 | .or es, S, k, h, cc, X, wx, g, x, hc => by
   unfold chkE at hc
   split at hc
   · exact (sOr es g hc).to fun ρ M => by rw [evE]
   · cases hc
 | .not a, S, k, h, cc, X, wx, g, x, hc => by
   unfold chkE at hc
   split at hc
   · exact (j_not g (sE a g hc)).to fun ρ M => by rw [evE]
   · cases hc
 | .ite c a b, S, k, h, cc, X, wx, g, x, hc => by
   unfold chkE at hc
   split at hc
   · simp only [Bool.and_eq_true] at hc
     exact (j_ite (sT c g hc.1.1) (sE a g hc.1.2) (sE b g hc.2)).to fun ρ M => by rw [evE]
   · cases hc
 | .tup es, S, k, h, cc, X, wx, g, x, hc => by
   unfold chkE at hc
   split at hc
   · simp only [Bool.and_eq_true, decide_eq_true_eq] at hc
     exact (j_tup (sEs es g hc.1.1 hc.1.2) fun ρ M zs M' e => by rw [evEs_len hc.1.1 ρ M zs M' e]; exact hc.2).to fun ρ M => by rw [evE]
   · cases hc
 | .lst es, S, k, h, cc, X, wx, g, x, hc => by
   unfold chkE at hc
   split at hc
   · simp only [Bool.and_eq_true, decide_eq_true_eq] at hc
     exact (j_lst (sEs es g hc.1.1 hc.1.2) fun ρ M zs M' e => by rw [evEs_len hc.1.1 ρ M zs M' e]; exact hc.2).to fun ρ M => by rw [evE]
   · cases hc
 | .mls es, S, k, h, cc, X, wx, g, x, hc => by
   unfold chkE at hc
   split at hc
   · simp only [Bool.and_eq_true, decide_eq_true_eq] at hc
     exact (j_mls (sEs es g hc.1.1 hc.1.2) fun ρ M zs M' e => by rw [evEs_len hc.1.1 ρ M zs M' e]; exact hc.2).to fun ρ M => by rw [evE] <;> rfl
   · cases hc
 | .mdc ks es, S, k, h, cc, X, wx, g, x, hc => by
   unfold chkE at hc
   split at hc
   · rename_i ys zs pos
     simp only [Bool.and_eq_true, decide_eq_true_eq] at hc
     obtain ⟨⟨⟨⟨⟨⟨h1, h2⟩, h3⟩, h4⟩, h5⟩, h6⟩, h7⟩ := hc
     obtain ⟨trs, hp, ht⟩ := sPs es g pos h6 h7 (h1.symm.trans h2)
     exact (j_mdc hp ht (chkKs_some h6) h2 h1 h3 h4 h5).to fun ρ M => by rw [evE] <;> rfl
   · cases hc
 | .mdt, S, k, h, cc, X, wx, g, x, hc => by
   unfold chkE at hc
   split at hc
   · exact (j_mdt g.eW).to fun ρ M => by rw [evE]
   · cases hc
 | .call f es, S, k, h, cc, X, wx, g, x, hc => by
   unfold chkE at hc
   split at hc
   · rename_i y p ys pos
     simp only [Bool.and_eq_true, decide_eq_true_eq] at hc
     obtain ⟨⟨⟨⟨h1, h2⟩, h3⟩, h4⟩, h5⟩ := hc
     cases ys with
     | nil =>
       cases es with
       | nil => exact (j_call0 g h1 h2 h3).to fun ρ M => by rw [evE, evEs, cfg_hot]
       | cons _ _ => exact absurd rfl (chkEs_len h4)
     | cons y ys => exact (j_call g h1 h2 h3 (sEs es g h4 h5) h5).to fun ρ M => by rw [evE, cfg_hot]
   · cases hc
 | .callP f es, S, k, h, cc, X, wx, g, x, hc => by
   unfold chkE at hc
   split at hc
   · rename_i y p ys pos
     simp only [Bool.and_eq_true, decide_eq_true_eq] at hc
     obtain ⟨⟨⟨⟨h1, h2⟩, h3⟩, h4⟩, h5⟩ := hc
     cases ys with
     | nil =>
       cases es with
       | nil => exact (j_callP0 g h1 h2 h3).to fun ρ M => by rw [evE, evEs, cfg_hot] <;> rfl
       | cons _ _ => exact absurd rfl (chkEs_len h4)
     | cons y ys => exact (j_callP g h1 h2 h3 (sEs es g h4 h5) h5).to fun ρ M => by rw [evE, cfg_hot] <;> rfl
   · cases hc
 | .bi b es, S, k, h, cc, X, wx, g, x, hc => by
   unfold chkE at hc
   split at hc
   · simp only [Bool.and_eq_true, decide_eq_true_eq] at hc
     obtain ⟨⟨⟨rfl, h1⟩, h2⟩, h3⟩ := hc
     cases hw : h && b.walks with
     | true => exact j_bad fun ρ M => by rw [evE, cfg_hot, if_pos hw]
     | false => exact (j_bi g hw (sEs es g h2 h3) h3 h1).to fun ρ M => by rw [evE, cfg_hot, if_neg (by rw [hw]; exact Bool.false_ne_true)]
   · cases hc
 | .isi a t, S, k, h, cc, X, wx, g, x, hc => by
   unfold chkE at hc
   split at hc
   · simp only [Bool.and_eq_true, decide_eq_true_eq] at hc
     obtain ⟨⟨⟨⟨⟨rfl, h1⟩, rfl⟩, h2⟩, h3⟩, h4⟩ := hc
     exact (j_isi g (sE a g h3) h4 h1 h2).to fun ρ M => by rw [evE]
   · cases hc
 | .isx i c, S, k, h, cc, X, wx, g, x, hc => by
   unfold chkE at hc
   split at hc
   · simp only [Bool.and_eq_true, decide_eq_true_eq] at hc
     obtain ⟨⟨⟨⟨⟨⟨⟨⟨h0, rfl⟩, h2⟩, h3⟩, h4⟩, h5⟩, h6⟩, h7⟩, h8⟩ := hc
     exact (j_isx g h0 h2 h3 h4 h5 h6 h7 h8).to fun ρ M => by rw [evE, cfg_sub] <;> rfl
   · cases hc
 | .isv i, S, k, h, cc, X, wx, g, x, hc => by
   unfold chkE at hc
   split at hc
   · simp only [Bool.and_eq_true, decide_eq_true_eq] at hc
     obtain ⟨⟨⟨⟨⟨⟨⟨h0, rfl⟩, h2⟩, h3⟩, h4⟩, h5⟩, rfl⟩, h7⟩ := hc
     exact (j_isv g h0 h2 h3 h4 h5 h7).to fun ρ M => by rw [evE, cfg_sub] <;> rfl
   · cases hc
 | .gidx i e, S, k, h, cc, X, wx, g, x, hc => by
   unfold chkE at hc
   split at hc
   · simp only [Bool.and_eq_true, decide_eq_true_eq] at hc
     obtain ⟨⟨⟨⟨⟨⟨rfl, h1⟩, h2⟩, h3⟩, h4⟩, h5⟩, h6⟩ := hc
     exact (j_gidx g h1 h2 h3 (sE e g h5) h6 h4).to fun ρ M => by
       rw [evE]
       cases k <;> rfl
   · cases hc
 | .mth m o es, S, k, h, cc, X, wx, g, x, hc => by
   unfold chkE at hc
   split at hc
   · rename_i y n ap zs p
     simp only [Bool.and_eq_true, decide_eq_true_eq] at hc
     obtain ⟨⟨⟨⟨⟨⟨⟨rfl, hk⟩, h1⟩, h2⟩, h3⟩, h4⟩, h5⟩, h6⟩ := hc
     cases es with
     | nil =>
       have hz : zs = [] := chkEs_len h4
       subst hz
       have hm : (m = .lower ∨ m = .upper ∨ m = .swapcase) ∨ m = .pop := by cases m <;> first | exact .inl (.inl rfl) | exact .inl (.inr (.inl rfl)) | exact .inl (.inr (.inr rfl)) | exact .inr rfl | cases hk
       rcases hm with hm | rfl
       · exact (j_m0 g hm (sE o g h3) h1 h2).to fun ρ M => by rw [evE]; simp only [evEs]
       · exact (j_pop g (sE o g h3) h1 h2).to fun ρ M => by rw [evE]; simp only [evEs]
     | cons e r =>
       cases r with
       | nil =>
         unfold chkEs at h4
         split at h4
         · rename_i z zs
           simp only [Bool.and_eq_true] at h4
           have hz : zs = [] := chkEs_len h4.2
           subst hz
           have hn : notStar z = true := by simpa using h5
           have hm : (m = .split ∨ m = .join ∨ m = .count) ∨ m = .append := by cases m <;> first | exact .inl (.inl rfl) | exact .inl (.inr (.inl rfl)) | exact .inl (.inr (.inr rfl)) | exact .inr rfl | cases hk
           rcases hm with hm | rfl
           · exact (j_m1 g hm (sE o g h3) (sE e g h4.1) hn h1 h2).to fun ρ M => by rw [evE]; simp only [evEs]
           · exact (j_app g (sE o g h3) (sE e g h4.1) hn h1 h2).to fun ρ M => by rw [evE]; simp only [evEs]
         · cases h4
       | cons e2 r2 =>
         unfold chkEs at h4
         split at h4
         · rename_i z zs
           simp only [Bool.and_eq_true] at h4
           have hz := chkEs_len h4.2
           cases zs with
           | nil => exact absurd rfl hz
           | cons a zs => cases m <;> cases hk
         · cases h4
   · cases hc
 | .sub o i, S, k, h, cc, X, wx, g, x, hc => by
   unfold chkE at hc
   split at hc
   · simp only [Bool.and_eq_true] at hc
     exact (j_sub g (sE o g hc.1.2) (sE i g hc.2) hc.1.1).to fun ρ M => by rw [evE]
   · cases hc
 | .dget o i w, S, k, h, cc, X, wx, g, x, hc => by
   unfold chkE at hc
   split at hc
   · simp only [Bool.and_eq_true, decide_eq_true_eq] at hc
     obtain ⟨⟨⟨⟨⟨⟨⟨rfl, h1⟩, h2⟩, h3⟩, h4⟩, h5⟩, h6⟩, h7⟩ := hc
     exact (j_dget g (sE o g h3) (sE i g h4) (sE w g h5) h6 h7 h1 h2).to fun ρ M => by rw [evE]
   · cases hc
 | .slc o lo hi, S, k, h, cc, X, wx, g, x, hc => by
   unfold chkE at hc
   split at hc
   · simp only [Bool.and_eq_true] at hc
     exact (j_slc g (sE o g hc.1.1) (sO lo g hc.1.2) (sO hi g hc.2)).to fun ρ M => by rw [evE]
   · cases hc
 | .rev o, S, k, h, cc, X, wx, g, x, hc => by
   unfold chkE at hc
   split at hc
   · exact (j_rev g (sE o g hc)).to fun ρ M => by
       rw [evE]
       rfl
   · cases hc
 | .lc elt tg it cond own, S, k, h, cc, X, wx, g, x, hc => by
   unfold chkE at hc
   split at hc
   · simp only [Bool.and_eq_true] at hc
     obtain ⟨⟨⟨⟨⟨⟨⟨h1, h2⟩, h3⟩, h4⟩, h5⟩, h6⟩, h7⟩, h8⟩ := hc
     refine (j_lc g (sI it g h1) h3 h4 (fun i hi => ?_) h6 (fun X' g' => sC cond g' h7) (fun X' g' => sE elt g' h8) (notSet_f h2 _)).to fun ρ M => by rw [evE]
     cases tg with
     | nm j =>
       have : i = j := by simpa [Tg.ids] using hi
       rw [this]
       simpa using h5
     | tp js =>
       have := List.all_eq_true.mp h5 i hi
       simpa using this
   · cases hc
 | .lcR elt tg it cond own, S, k, h, cc, X, wx, g, x, hc => by
   unfold chkE at hc
   split at hc
   · simp only [Bool.and_eq_true] at hc
     obtain ⟨⟨⟨⟨⟨⟨⟨h1, h2⟩, h3⟩, h4⟩, h5⟩, h6⟩, h7⟩, h8⟩ := hc
     refine (j_lcR g (sE it g h1) h3 h4 (fun i hi => ?_) h6 (fun X' g' => sC cond g' h7) (fun X' g' => sE elt g' h8) (notSet_f h2 _)).to fun ρ M => by rw [evE] <;> rfl
     cases tg with
     | nm j =>
       have : i = j := by simpa [Tg.ids] using hi
       rw [this]
       simpa using h5
     | tp js =>
       have := List.all_eq_true.mp h5 i hi
       simpa using this
   · cases hc
 | .xat i f, S, k, h, cc, X, wx, g, x, hc => by
   unfold chkE at hc
   split at hc
   · simp only [Bool.and_eq_true, decide_eq_true_eq] at hc
     obtain ⟨⟨⟨⟨⟨h0, h1⟩, h2⟩, h3⟩, h4⟩, h5⟩ := hc
     subst h4
     exact (j_xat g h0 h1 h2 h3 h5).to fun ρ M => by rw [evE] <;> rfl
   · cases hc
 | .mkx c e, S, k, h, cc, X, wx, g, x, hc => by
   unfold chkE at hc
   split at hc
   · simp only [Bool.and_eq_true, decide_eq_true_eq] at hc
     obtain ⟨⟨⟨⟨⟨h1, h2⟩, h3⟩, h4⟩, h5⟩, h6⟩ := hc
     exact (j_mkx g h1 h2 h3 h4 h5 (sE e g h6)).to fun ρ M => by rw [evE, cfg_hot] <;> rfl
   · cases hc
 | .mki c f e, S, k, h, cc, X, wx, g, x, hc => by
   unfold chkE at hc
   split at hc
   · simp only [Bool.and_eq_true, decide_eq_true_eq] at hc
     obtain ⟨⟨⟨⟨⟨h1, h2⟩, h3⟩, h4⟩, h5⟩, h6⟩ := hc
     exact (j_mki g h1.symm h2 h3 h4 h5 (sE e g h6)).to fun ρ M => by rw [evE, cfg_hot, cfg_lv] <;> rfl
   · cases hc
 | .atx e f, S, k, h, cc, X, wx, g, x, hc => by
   unfold chkE at hc
   split at hc
   · simp only [Bool.and_eq_true, decide_eq_true_eq] at hc
     obtain ⟨⟨⟨h1, h2⟩, h3⟩, h4⟩ := hc
     subst h2
     exact (j_atx g h1 h3 (sE e g h4)).to fun ρ M => by rw [evE, cfg_hot] <;> rfl
   · cases hc
 | .clo i es, S, k, h, cc, X, wx, g, x, hc => by
   unfold chkE at hc
   split at hc
   · simp only [Bool.and_eq_true, decide_eq_true_eq] at hc
     obtain ⟨⟨⟨⟨⟨h0, h2⟩, h3⟩, h4⟩, h5⟩, h6⟩ := hc
     rename_i y p ys pos
     cases ys with
     | nil =>
       cases es with
       | nil => exact (j_clo0 g h0 h2 h3 h4).to fun ρ M => by rw [evE, cfg_hot] <;> simp only [evEs] <;> rfl
       | cons _ _ => exact absurd rfl (chkEs_len h5)
     | cons y0 ys => exact (j_clo g h0 h2 h3 h4 (sEs es g h5 h6) h6).to fun ρ M => by rw [evE, cfg_hot] <;> rfl
   · cases hc
 | .callL f es ps b, S, k, h, cc, X, wx, g, x, hc => by
   unfold chkE at hc
   split at hc
   · simp only [Bool.and_eq_true, decide_eq_true_eq] at hc
     obtain ⟨⟨⟨⟨⟨⟨⟨h0, h1⟩, h3⟩, h4⟩, h5⟩, h6⟩, h7⟩, h8⟩ := hc
     cases es with
     | nil => exact (j_callL0 g h0 h3 h4 h5 h6 h7 fun g' => sE b g' h8).to fun ρ M => by rw [evE, cfg_hot] <;> simp only [evEs]
     | cons _ _ => exact absurd rfl (chkEs_len h1)
   · simp only [Bool.and_eq_true, decide_eq_true_eq] at hc
     obtain ⟨⟨⟨⟨⟨⟨⟨⟨h0, h1⟩, h3⟩, h4⟩, h5⟩, h6⟩, h7⟩, h8⟩, h9⟩ := hc
     cases es with
     | nil => cases chkEs_len h1
     | cons e r =>
       unfold chkEs at h1
       simp only [Bool.and_eq_true] at h1
       cases r with
       | cons _ _ => exact absurd rfl (chkEs_len h1.2)
       | nil =>
         exact (j_callL1 g h0 h3 h4 h5 h6 h7 (sE e g h1.1) h9 fun g' => sE b g' h8).to fun ρ M => by
           rw [evE, cfg_hot]
           simp only [evEs]
           rfl
   · cases hc
 | .callV i fs es, S, k, h, cc, X, wx, g, x, hc => by
   unfold chkE at hc
   split at hc
   · simp only [Bool.and_eq_true, decide_eq_true_eq] at hc
     obtain ⟨⟨⟨⟨⟨h1, h2⟩, h3⟩, h4⟩, h5⟩, h6⟩ := hc
     exact (j_callV g h1 h2 h3 h4 (sEs es g h5 h6) h6).to fun ρ M => by rw [evE, cfg_hot] <;> rfl
   · cases hc
 | .sset a, S, k, h, cc, X, wx, g, x, hc => by
   unfold chkE at hc
   split at hc
   · simp only [Bool.and_eq_true, decide_eq_true_eq] at hc
     obtain ⟨⟨⟨⟨⟨rfl, h1⟩, rfl⟩, h2⟩, h3⟩, h4⟩ := hc
     exact (j_sset g (sE a g h3) h4 h1 h2).to fun ρ M => by rw [evE, cfg_hot] <;> rfl
   · cases hc
 | .callW f i es, S, k, h, cc, X, wx, g, x, hc => by
   unfold chkE at hc
   split at hc
   · simp only [Bool.and_eq_true, decide_eq_true_eq] at hc
     obtain ⟨⟨⟨⟨⟨⟨⟨h1, h2⟩, h3⟩, h4⟩, h5⟩, h6⟩, h7⟩, h8⟩ := hc
     exact (j_callW g h1 h2 h3 h4 h5 h6 (sEs es g h7 h8) h8).to fun ρ M => by rw [evE, cfg_hot] <;> rfl
   · cases hc
 | .callX f i, S, k, h, cc, X, wx, g, x, hc => by
   unfold chkE at hc
   split at hc
   · simp only [Bool.and_eq_true, decide_eq_true_eq] at hc
     obtain ⟨⟨⟨⟨⟨⟨h0, h1⟩, h2⟩, h3⟩, h4⟩, h5⟩, h6⟩ := hc
     exact (j_callX g h0 h1 h2 h3 h4 h5 h6).to fun ρ M => by rw [evE, cfg_hot] <;> cases h <;> rfl
   · cases hc
 | .sln i, S, k, h, cc, X, wx, g, x, hc => by
   unfold chkE at hc
   split at hc
   · simp only [Bool.and_eq_true, decide_eq_true_eq] at hc
     obtain ⟨⟨⟨⟨rfl, h2⟩, h3⟩, h4⟩, h5⟩ := hc
     exact (j_sln g h2 h3 h4 h5).to fun ρ M => by rw [evE] <;> rfl
   · cases hc
 | .six i e, S, k, h, cc, X, wx, g, x, hc => by
   unfold chkE at hc
   split at hc
   · simp only [Bool.and_eq_true, decide_eq_true_eq] at hc
     obtain ⟨⟨⟨⟨h1, h2⟩, h3⟩, h4⟩, h5⟩ := hc
     exact (j_six g h1 h2 h3 (sE e g h5) h4).to fun ρ M => by rw [evE] <;> rfl
   · cases hc
theorem sEs : ∀ (es : Es) {S : Sc} {k : Nat} {h : Bool} {cc : CC} {X : Cx} {wx : WX} (_ : GX W G S k h cc X wx) {ys : List Expr}, chkEs G cc es ys = true → ys.all notStar = true → PA X ys (tDs W S wx (evEs (W.cfg k h) es))
 | .nil, S, k, h, cc, X, wx, g, ys, hc, hn => by
   unfold chkEs at hc
   split at hc
   · exact j_nil.to fun ρ M => by rw [evEs]
   · cases hc
 | .cons e r, S, k, h, cc, X, wx, g, ys, hc, hn => by
   unfold chkEs at hc
   split at hc
   · simp only [Bool.and_eq_true] at hc
     rw [List.all_cons, Bool.and_eq_true] at hn
     exact (j_cons (sE e g hc.1) (sEs r g hc.2 hn.2) hn.1).to fun ρ M => by rw [evEs]
   · cases hc
theorem sPs : ∀ (es : Es) {S : Sc} {k : Nat} {h : Bool} {cc : CC} {X : Cx} {wx : WX} (_ : GX W G S k h cc X wx) {ks : List Str} {ys : List (Option Expr)} {zs : List Expr} (pos : Pos), chkKs ks ys = true → chkEs G cc es zs = true → ks.length = zs.length → ∃ trs, PPs X pos ys zs trs ∧ TrR W S wx ks trs (evEs (W.cfg k h) es)
 | .nil, S, k, h, cc, X, wx, g, ks, ys, zs, pos, hk, hc, hl => by
   unfold chkEs at hc
   split at hc
   · cases ks with
     | cons _ _ => cases hl
     | nil =>
       cases ys with
       | cons _ _ => cases hk
       | nil =>
         refine ⟨[], pps_nil, ?_⟩
         have e : evEs (W.cfg k h) .nil = fun _ M => R.ok [] M := by
           funext ρ M
           rw [evEs]
         rw [e]
         exact .nil
   · cases hc
 | .cons e r, S, k, h, cc, X, wx, g, ks, ys, zs, pos, hk, hc, hl => by
   unfold chkEs at hc
   split at hc
   · rename_i z zs
     simp only [Bool.and_eq_true] at hc
     cases ks with
     | nil => cases hl
     | cons s ss =>
       cases ys with
       | nil => cases hk
       | cons y ys =>
         unfold chkKs at hk
         split at hk
         · rename_i h1 h2
           cases h1
         · rename_i s' ss' t kk pp r' h1 h2
           cases h1
           cases h2
           simp only [Bool.and_eq_true, decide_eq_true_eq] at hk
           obtain ⟨hs, hk⟩ := hk
           subst hs
           obtain ⟨trs, hp, ht⟩ := sPs r g pos hk hc.2 (by simpa using hl)
           refine ⟨_, pps_cons pe_str (sE e g hc.1) hp, ?_⟩
           have e : evEs (W.cfg k h) (.cons e r) = fun ρ M => (evE (W.cfg k h) e ρ M).bind fun x M1 => (evEs (W.cfg k h) r ρ M1).bind fun xs M2 => .ok (x :: xs) M2 := by
             funext ρ M
             rw [evEs]
           rw [e]
           exact .cons ht
         · cases hk
   · cases hc
theorem sAnd : ∀ (es : Es) {S : Sc} {k : Nat} {h : Bool} {cc : CC} {X : Cx} {wx : WX} (_ : GX W G S k h cc X wx) {ys : List Expr} {pos : Pos}, chkEs G cc es ys = true → PE X (.BoolOp .And ys pos) (tD W S wx (evAnd (W.cfg k h) es))
 | .nil, S, k, h, cc, X, wx, g, ys, pos, hc => j_bad fun ρ M => by rw [evAnd]
 | .cons e .nil, S, k, h, cc, X, wx, g, ys, pos, hc => by
   unfold chkEs at hc
   split at hc
   · simp only [Bool.and_eq_true] at hc
     have hz := chkEs_len hc.2
     dsimp only at hz
     subst hz
     exact (pe_and1 (sE e g hc.1)).to fun ρ M => by rw [evAnd]
   · cases hc
 | .cons e (.cons e2 r), S, k, h, cc, X, wx, g, ys, pos, hc => by
   unfold chkEs at hc
   split at hc
   · rename_i y ys
     simp only [Bool.and_eq_true] at hc
     have hz := chkEs_len hc.2
     cases ys with
     | nil => exact absurd rfl hz
     | cons b ys => exact (j_and (sE e g hc.1) (sAnd (.cons e2 r) g hc.2)).to fun ρ M => by rw [evAnd]; intro z; cases z
   · cases hc
theorem sOr : ∀ (es : Es) {S : Sc} {k : Nat} {h : Bool} {cc : CC} {X : Cx} {wx : WX} (_ : GX W G S k h cc X wx) {ys : List Expr} {pos : Pos}, chkEs G cc es ys = true → PE X (.BoolOp .Or ys pos) (tD W S wx (evOr (W.cfg k h) es))
 | .nil, S, k, h, cc, X, wx, g, ys, pos, hc => j_bad fun ρ M => by rw [evOr]
 | .cons e .nil, S, k, h, cc, X, wx, g, ys, pos, hc => by
   unfold chkEs at hc
   split at hc
   · simp only [Bool.and_eq_true] at hc
     have hz := chkEs_len hc.2
     dsimp only at hz
     subst hz
     exact (pe_or1 (sE e g hc.1)).to fun ρ M => by rw [evOr]
   · cases hc
 | .cons e (.cons e2 r), S, k, h, cc, X, wx, g, ys, pos, hc => by
   unfold chkEs at hc
   split at hc
   · rename_i y ys
     simp only [Bool.and_eq_true] at hc
     have hz := chkEs_len hc.2
     cases ys with
     | nil => exact absurd rfl hz
     | cons b ys => exact (j_or (sE e g hc.1) (sOr (.cons e2 r) g hc.2)).to fun ρ M => by rw [evOr]; intro z; cases z
   · cases hc
theorem sO : ∀ (o : Eo) {S : Sc} {k : Nat} {h : Bool} {cc : CC} {X : Cx} {wx : WX} (_ : GX W G S k h cc X wx) {y : Option Expr}, chkO G cc o y = true → PO X y (tDO W S wx (evO (W.cfg k h) o))
 | .no, S, k, h, cc, X, wx, g, y, hc => by
   unfold chkO at hc
   split at hc
   · exact jo_no.to fun ρ M => by rw [evO]
   · cases hc
 | .so e, S, k, h, cc, X, wx, g, y, hc => by
   unfold chkO at hc
   split at hc
   · exact (jo_so (sE e g hc)).to fun ρ M => by rw [evO] <;> rfl
   · cases hc
theorem sT : ∀ (t : T) {S : Sc} {k : Nat} {h : Bool} {cc : CC} {X : Cx} {wx : WX} (_ : GX W G S k h cc X wx) {x : Expr}, chkT G cc t x = true → PT X x (tDT W S wx (evT (W.cfg k h) t))
 | .and ts, S, k, h, cc, X, wx, g, x, hc => by
   unfold chkT at hc
   split at hc
   · exact (sTA ts g hc).pt.to fun ρ M => by rw [evT]
   · cases hc
 | .or ts, S, k, h, cc, X, wx, g, x, hc => by
   unfold chkT at hc
   split at hc
   · exact (sTO ts g hc).pt.to fun ρ M => by rw [evT]
   · cases hc
 | .not t, S, k, h, cc, X, wx, g, x, hc => by
   unfold chkT at hc
   split at hc
   · exact (jt_not (sT t g hc)).to fun ρ M => by rw [evT]
   · cases hc
 | .cmp op a b, S, k, h, cc, X, wx, g, x, hc => by
   unfold chkT at hc
   split at hc
   · simp only [Bool.and_eq_true, decide_eq_true_eq] at hc
     obtain ⟨⟨⟨rfl, h0⟩, h1⟩, h2⟩ := hc
     exact (jt_cmp (op_cmpZ g.eK g.units op) (sE a g h1) (sE b g h2) (notSet_m h0)).to fun ρ M => by rw [evT]
   · cases hc
 | .chain o1 o2 a b c, S, k, h, cc, X, wx, g, x, hc => by
   unfold chkT at hc
   split at hc
   · simp only [Bool.and_eq_true, decide_eq_true_eq] at hc
     obtain ⟨⟨⟨⟨⟨rfl, rfl⟩, h0⟩, h1⟩, h2⟩, h3⟩ := hc
     exact (jt_chain (op_cmpZ g.eK g.units o1) (op_cmpZ g.eK g.units o2) (sE a g h1) (sE b g h2) (sE c g h3) (notSet_l h0)).to fun ρ M => by rw [evT]
   · cases hc
 | .e e, S, k, h, cc, X, wx, g, x, hc => by
   unfold chkT at hc
   rw [Bool.and_eq_true] at hc
   exact (jt_e g (sE e g hc.2) hc.1).to fun ρ M => by rw [evT]
theorem sTA : ∀ (ts : Ts) {S : Sc} {k : Nat} {h : Bool} {cc : CC} {X : Cx} {wx : WX} (_ : GX W G S k h cc X wx) {ys : List Expr} {pos : Pos}, chkTs G cc ts ys = true → PW X (.BoolOp .And ys pos) (tDT W S wx (evTA (W.cfg k h) ts))
 | .nil, S, k, h, cc, X, wx, g, ys, pos, hc => by
   unfold chkTs at hc
   cases hc
 | .cons t .nil, S, k, h, cc, X, wx, g, ys, pos, hc => by
   unfold chkTs at hc
   split at hc
   · exact (jt_and1 (sT t g hc)).to fun ρ M => by simp only [evTA]
   · cases hc
 | .cons t (.cons t2 r), S, k, h, cc, X, wx, g, ys, pos, hc => by
   unfold chkTs at hc
   · split at hc
     · rename_i y ys
       simp only [Bool.and_eq_true] at hc
       have ih := fun p => sTA (.cons t2 r) g (ys := ys) (pos := p) hc.2
       cases ys with
       | nil =>
         exfalso
         have := hc.2
         cases r <;> unfold chkTs at this <;> first | cases this | (intro z; cases z)
       | cons b ys => exact (jt_and (sT t g hc.1) (ih pos)).to fun ρ M => by rw [evTA]
     · cases hc
theorem sTO : ∀ (ts : Ts) {S : Sc} {k : Nat} {h : Bool} {cc : CC} {X : Cx} {wx : WX} (_ : GX W G S k h cc X wx) {ys : List Expr} {pos : Pos}, chkTs G cc ts ys = true → PW X (.BoolOp .Or ys pos) (tDT W S wx (evTO (W.cfg k h) ts))
 | .nil, S, k, h, cc, X, wx, g, ys, pos, hc => by
   unfold chkTs at hc
   cases hc
 | .cons t .nil, S, k, h, cc, X, wx, g, ys, pos, hc => by
   unfold chkTs at hc
   split at hc
   · exact (jt_or1 (sT t g hc)).to fun ρ M => by simp only [evTO]
   · cases hc
 | .cons t (.cons t2 r), S, k, h, cc, X, wx, g, ys, pos, hc => by
   unfold chkTs at hc
   · split at hc
     · rename_i y ys
       simp only [Bool.and_eq_true] at hc
       have ih := fun p => sTO (.cons t2 r) g (ys := ys) (pos := p) hc.2
       cases ys with
       | nil =>
         exfalso
         have := hc.2
         cases r <;> unfold chkTs at this <;> first | cases this | (intro z; cases z)
       | cons b ys => exact (jt_or (sT t g hc.1) (ih pos)).to fun ρ M => by rw [evTO]
     · cases hc
theorem sC : ∀ (t : To) {S : Sc} {k : Nat} {h : Bool} {cc : CC} {X : Cx} {wx : WX} (_ : GX W G S k h cc X wx) {ys : List Expr}, chkC G cc t ys = true → PTs X ys (tDT W S wx (evC (W.cfg k h) t))
 | .no, S, k, h, cc, X, wx, g, ys, hc => by
   unfold chkC at hc
   split at hc
   · exact pts_no.to fun ρ M => by rw [evC]
   · cases hc
 | .so t, S, k, h, cc, X, wx, g, ys, hc => by
   unfold chkC at hc
   split at hc
   · exact (pts_one (sT t g hc)).to fun ρ M => by rw [evC]
   · cases hc
theorem sI : ∀ (i : Iz) {S : Sc} {k : Nat} {h : Bool} {cc : CC} {X : Cx} {wx : WX} (_ : GX W G S k h cc X wx) {t x : Expr}, chkI G cc i t x = true → Hh.PIM (MdH h) X t x (iZ W S wx (evI (W.cfg k h) i))
 | .it e, S, k, h, cc, X, wx, g, t, x, hc => by
   unfold chkI at hc
   exact (pj_it g (sE e g hc)).to fun ρ M => by rw [evI, cfg_hot]
 | .rng1 e, S, k, h, cc, X, wx, g, t, x, hc => by
   unfold chkI at hc
   split at hc
   · simp only [Bool.and_eq_true, decide_eq_true_eq] at hc
     obtain ⟨⟨⟨rfl, h1⟩, h2⟩, h3⟩ := hc
     exact (pj_rng1 g (sE e g h2) h3 h1).to fun ρ M => by rw [evI] <;> rfl
   · cases hc
 | .rng2 a b, S, k, h, cc, X, wx, g, t, x, hc => by
   unfold chkI at hc
   split at hc
   · simp only [Bool.and_eq_true, decide_eq_true_eq] at hc
     obtain ⟨⟨⟨⟨⟨rfl, h1⟩, h2⟩, h3⟩, h4⟩, h5⟩ := hc
     exact (pj_rng2 g (sE a g h2) (sE b g h3) h4 h5 h1).to fun ρ M => by rw [evI] <;> rfl
   · cases hc
 | .zip a b, S, k, h, cc, X, wx, g, t, x, hc => by
   unfold chkI at hc
   split at hc
   · simp only [Bool.and_eq_true, decide_eq_true_eq] at hc
     obtain ⟨⟨⟨⟨⟨⟨h0, rfl⟩, h1⟩, h2⟩, h3⟩, h4⟩, h5⟩ := hc
     exact (pj_zip g h0 (sE a g h2) (sE b g h3) h4 h5 h1).to fun ρ M => by rw [evI] <;> rfl
   · cases hc
 | .enum a, S, k, h, cc, X, wx, g, t, x, hc => by
   unfold chkI at hc
   split at hc
   · simp only [Bool.and_eq_true, decide_eq_true_eq] at hc
     obtain ⟨⟨⟨⟨h0, rfl⟩, h1⟩, h2⟩, h3⟩ := hc
     exact (pj_enum g h0 (sE a g h2) h3 h1).to fun ρ M => by rw [evI, cfg_hot] <;> rfl
   · cases hc
 | .fns is, S, k, h, cc, X, wx, g, t, x, hc => by
   unfold chkI at hc
   split at hc
   · simp only [Bool.and_eq_true, decide_eq_true_eq] at hc
     exact (pj_fns g hc.1 hc.2).to fun ρ M => by rw [evI]
   · cases hc
end
end
end Zt
namespace Zt
open PySem PySem.Spec PyProof.Rows L2
theorem upd_back {H : Hp} {a d : Addr} {u w o : HO} (hn : H a = none) (hd : d ≠ a) : upd (del (upd (upd (upd H a u) d w) a o) a) d (.xd fs) = upd H d (.xd fs) := by
 funext b
 by_cases h1 : b = d
 · rw [h1, upd_same, upd_same]
 · rw [upd_ne h1, upd_ne h1]
   by_cases h2 : b = a
   · rw [h2, del_same, hn]
   · rw [del_ne h2, upd_ne h2, upd_ne h1, upd_ne h2]
theorem mk_oexN {X : Cx} {x f : Str} {C fI : Addr} {k : Nat} {fd : FuncData} {ps : List Str} {e : Expr} {te : TE} {p pos : Pos} (T : OexC X.K C) (hi : PySem.W.findIn X.K (.ref C) "__init__" = some (some (.ref fI))) (ht : PySem.W.typeIn X.K (.ref fI) = some (.type "function"))
   (F : FnOk X.prog X.w X.K X.mg X.base (L2N.CX X.prog X.w) k fI fd ps (spInit C f)) (room : Room (k + 1) X.A) (bnd : L2.Binds X.K fd ps []) (gx : Gl X x) (mx : X.mg x = some (.ref C)) (hdb : (x == ("__debug__" : Str)) = false) (he : PE X e te) (hst : notStar e = true) :
   L2N.PMk X (.Call (.Name x p) [e] [] pos) (fun σ H Q => te σ H fun v H1 => ∀ d, H1 d = none → Q (.ref C) (some d) (upd H1 d (.xd [(f, v)]))) := by
 intro pins s σ H Q I h
 have pa : PA X [e] (tCons te tNil) := pa_cons he pa_nil (by cases e <;> first | rfl | cases hst)
 obtain ⟨nm, q, N, bs, bm, sn, sub, ab, col, dd, k0, k1, k2, k3, k5, lk, tail⟩ := T.cls
 refine wpAny_Call_Name_kw (ld_glob I gx mx ?_ hdb)
 let P : V → Hp → Prop := fun v H1 => ∀ d, H1 d = none → Q (.ref C) (some d) (upd H1 d (.xd [(f, v)]))
 have arg := pa.run pos pins s σ H (fun vs H1 => match vs with
   | [v] => P v H1
   | _ => False) I h
 refine PySem.W.callWith_K (h₀ := X.base) I.ok.mod.kin T.kC (thn arg fun us s1 hh => ?_) (by cases e <;> first | rfl | cases hst) rfl
 obtain ⟨vs, H1, I1, r1, q1⟩ := hh
 cases r1 with
 | nil => exact q1.elim
 | @cons v u vs us ru rr =>
   cases rr with
   | cons _ _ => exact q1.elim
   | nil =>
     have q1 : P v H1 := q1
     refine ⟨I1.kIn, ?_⟩
     show wpAny _ _ (call (.ref C) [u]) _ _ _
     obtain ⟨hp, gs, dr, tk, os⟩ := s1
     have big : hp.objs.size ≤ hp.objs.size + 1 := Nat.le_succ _
     have fresh : H1 (hp.objs.size + 1) = none := I1.hok.fresh big
     obtain ⟨a0, hA⟩ : ∃ a0 : Addr, a0 = hp.objs.size + 1 := ⟨_, rfl⟩
     rw [← hA] at fresh big
     let hp1 : Heap := (hp.push (PySem.W.kdv_tup [u])).push (PySem.HandSPX.excO C hp.objs.size)
     have kept : ∀ b o, hp.get? b = some o → hp1.get? b = some o := fun b o z => Heap.get?_push_of_some _ (Heap.get?_push_of_some _ z)
     have there : hp1.get? a0 = some (PySem.HandSPX.excO C hp.objs.size) := by
       subst hA
       show ((hp.push (PySem.W.kdv_tup [u])).push (PySem.HandSPX.excO C hp.objs.size)).get? (hp.objs.size + 1) = _
       heap_get
     have I2 : Inv X pins σ (upd H1 a0 (exo a0 C none)) ⟨hp1, gs, dr, tk, os⟩ := I1.laid (t' := tk) (a := a0) (o := exo a0 C none) (h' := hp1) kept big (exo_ok there)
     have sp : spInit C f [.ref a0, v] (upd H1 a0 (exo a0 C none)) (fun z H2 => z = .non ∧ ∃ d, H2 a0 = some (exo a0 C (some d)) ∧ H2 d = some (exd d [(f, v)]) ∧ H1 d = none ∧ Q (.ref C) (some d) (upd (del H2 a0) d (.xd [(f, v)]))) (fun _ _ _ => False) := by
       refine ⟨a0, v, rfl, upd_same, fun dx n ne => ⟨rfl, dx, upd_same, by rw [upd_ne ne, upd_same], ?_, ?_⟩⟩
       · rw [upd_ne ne] at n
         exact n
       · rw [upd_back fresh ne]
         rw [upd_ne ne] at n
         exact q1 dx n
     have vals : Vals [V.ref a0, v] ([Value.ref a0, u] ++ []) := .cons rfl (.cons ru .nil)
     have hl : ([Value.ref a0, u] ++ []).length = ps.length := by
       have e2 := vals.length
       rw [F.len _ _ _ _ sp] at e2
       exact e2.symm
     subst hA
     refine wpAny_call (PySem.HandSPX.call_own PySem.F.excBase_ValueError (fun Y => PySem.HandSPX.refsVE_contains Y bm tail) (I1.kIn _ _ lk) (PySem.W.looks_findIn I1.kIn hi) (fun self => PySem.W.bind_fn I1.kIn self ht) (show 1 ≤ sizeLine by decide) ?_)
     have run := F.run _ X.stack _ _ ⟨[Value.ref (hp.objs.size + 1), u], []⟩ ([Value.ref (hp.objs.size + 1), u] ++ []) _ _ (fun _ _ _ => False) (room.make C [u] []) (I2.env0.make C [u] []) (bnd _ [Value.ref (hp.objs.size + 1), u] I2.kIn hl) vals sp
     refine codeAny_mono run fun r s' back => ?_
     cases r with
     | error er =>
       obtain ⟨_, _, _, _, _, _, _, _, _, _, _, _, bad⟩ := back
       exact bad.elim
     | ok fl =>
       cases fl with
       | ret w =>
         obtain ⟨z, H2, os2, bare2, un2, hok2, rz, ev, d, ea, ed, hd1, q2⟩ := back
         subst ev
         obtain ⟨h2, g2, d2, t2, os'⟩ := s'
         obtain ⟨t0, G, J, kG, ge, hoe, na⟩ := L2.mk_end0 (d2 := d2) (t2 := t2) I1 big kept un2 hok2 os2 bare2 ea ed hd1
         exact ⟨rz, hp.objs.size + 1, _, _, ⟨G, g2, d2, t2, os'⟩, _, .ref C, some d, rfl, J, kG, ge, hoe, ⟨rfl, rfl, fun vs e => by cases e; rfl⟩, rfl, rfl, na, rfl, bare2, raises_own T.exC T.tyC, q2⟩
       | next => exact False.elim back
       | brk => exact False.elim back
       | cont => exact False.elim back
end Zt
set_option maxHeartbeats 4000000
namespace Zt
open PySem PySem.Spec PyProof.Rows L2
theorem sws {y z : Expr} {l : Nat} {env : PySem.Env} (h : chkS0 z = true) : swapsWithSole [y] z l env = pure false := by
 cases z <;> first | rfl | cases h
theorem sws0 {z : Expr} {l : Nat} {env : PySem.Env} (h : chkS0 z = true) : swapsWith z none l env = pure false := by
 cases z <;> first | rfl | cases h
theorem swp {y z : Expr} {env : PySem.Env} (hl : ∀ es p, y ≠ .List es p) (h : (notTup y || notTup z) = true) : swappedStores [y] z env = pure none := by
 cases y <;> first | rfl | skip
 · rename_i es p
   exact absurd rfl (hl es p)
 · cases z <;> first | rfl | cases h
section
variable {W : Wd} {G : Stat}
theorem js_raise {S : Sc} {k : Nat} {h : Bool} {cc : CC} {X : Cx} {wx : WX} (g : GX W G S k h cc X wx) {c j : Nat} {x m : Str} {p p2 pos' pos : Pos} (hpl : G.pl[c]? = some true) (hx : G.cn[c]? = some x) (hg : isGlob cc x = true) (hp : plainName x = true) :
   PS X (.Raise (some (.Call (.Name x p) [.Constant (.str m) j p2] [] pos')) none pos) (tS W S wx fun ρ M => if h then .bad else .ex ⟨c, []⟩ ρ M) := by
 cases h with
 | true => exact bad_s fun ρ M => if_pos rfl
 | false =>
   obtain ⟨C, h1, h2, h3, h4, h5, h6⟩ := g.ok.cls c x hx
   obtain ⟨q1, q2, _⟩ := plain_dbg hp
   refine (L2N.ps_raise (g.calm rfl).1 g.takes (L2N.pmk_own PySem.F.excBase_ValueError (by rw [g.eK]; exact h4 hpl) (by rw [g.eM]; exact h1) (by rw [g.eK]; exact h3) (raises_own (by rw [g.eK]; exact h5) (by rw [g.eK]; exact h6)) (g.gl hg) q1)).imp fun D σ H hq => ?_
   obtain ⟨ι, ρ, M, rl, e⟩ := hq
   have := e ι none σ H (Ext.refl _ _) rl ExF.nil
   rw [h2] at this
   exact this
theorem js_raiseI {S : Sc} {k : Nat} {h : Bool} {cc : CC} {X : Cx} {wx : WX} (g : GX W G S k h cc X wx) {c : Nat} {x f : Str} {e : Expr} {p pos' pos : Pos} {fe : Env → Mem → R Z} (hfl : G.fl[c]? = some (some f)) (hx : G.cn[c]? = some x) (hg : isGlob cc x = true) (hp : plainName x = true) (hst : notStar e = true) (he : PE X e (tD W S wx fe)) :
   PS X (.Raise (some (.Call (.Name x p) [e] [] pos')) none pos) (tS W S wx fun ρ M => if h || decide (k < 2) then .bad else (fe ρ M).st ρ fun z M1 => match z with
     | .d d => .ex ⟨c, [(f, d)]⟩ ρ M1
     | _ => .bad) := by
 cases h with
 | true => exact bad_s fun ρ M => if_pos rfl
 | false =>
   by_cases hk : k < 2
   · exact bad_s fun ρ M => if_pos (by rw [decide_eq_true hk]; rfl)
   · obtain ⟨C, h1, h2, h3, h4, h5, h6⟩ := g.ok.cls c x hx
     obtain ⟨C', fI, fd, ps, o1, o2, o3, o4, o5, o6⟩ := g.ok.own c f hfl
     rw [h2] at o1
     cases o1
     obtain ⟨q1, q2, _⟩ := plain_dbg hp
     have rm : Room (1 + 1) X.A := ⟨(g.calm rfl).2.hd, by have := (g.calm rfl).2.dp; omega, by have := (g.calm rfl).2.un; omega⟩
     rw [← g.eP, ← g.eW, ← g.eK, ← g.eM, ← g.eB] at o5
     rw [← g.eK] at o2 o3 o4 o6
     have key := L2N.ps_raise (pos := pos) (g.calm rfl).1 g.takes (mk_oexN (p := p) (pos := pos') o2 o3 o4 o5 rm o6 (g.gl hg) (by rw [g.eM]; exact h1) q1 he hst)
     refine key.imp fun D σ H hq => ?_
     obtain ⟨ι, ρ, M, rl, e⟩ := hq
     dsimp only at e
     rw [if_neg (by simp [hk])] at e
     refine ⟨ι, ρ, M, rl, ?_⟩
     cases r : fe ρ M with
     | bad => rw [r] at e; exact e
     | ex z M1 =>
       rw [r] at e
       exact fun ι' dx H' x' m xf => e ι' dx σ H' x' ⟨rl.s.mono x', m⟩ xf
     | ok z M1 =>
       rw [r] at e
       intro ι1 v H1 x1 m dz dd hdd
       cases dz with
       | r _ => exact e.elim
       | f _ => exact e.elim
       | @d _ y dv =>
         have x2 : Ext ι1 H1 ι1 (upd H1 dd (.xd [(f, v)])) := Ext.new hdd
         have e : EndS W S wx D ι H (.ex ⟨c, [(f, y)]⟩ ρ M1) := e
         have := e ι1 (some dd) σ _ (x1.trans x2) ⟨rl.s.mono (x1.trans x2), m.new hdd⟩ ⟨fun z => (nomatch z), fun f' d' hl => by
           by_cases hf : f' = f
           · subst hf
             have hl : some y = some d' := by simpa [List.lookup] using hl
             cases hl
             exact ⟨dd, _, v, rfl, fun z => m.has dd z hdd, upd_same, by simp [List.lookup], dv.mono x2⟩
           · have hb : (f' == f) = false := by simpa using hf
             simp [List.lookup, hb] at hl⟩
         rw [h2] at this
         exact this
theorem call_err {X : Cx} {k : Nat} (eP : X.prog = W.P) (eW : X.w = W.w) (eK : X.K = W.K) (eM : X.mg = W.mg) (eB : X.base = W.base) (cl : Calls W G k) (hr : L2H.RoomH k X.A) {wx : WX} (tk : L2N.Takes X wx) {a : Addr} {c f : Nat} {dx : Option Addr} {fs : List (Str × D)} {oe : Obj} {x : Str} (ea : ErrAt W X.A a c dx oe) (hp : (a, oe) ∈ X.pn) (hx : G.nm[f]? = some x)
   {pins : List (Addr × Obj)} {s : Shared} {σ : L2.St} {H : Hp} {Q : VK} {ι : Io} {M : Mem} (I : Inv X pins σ H s) (m : MI W ι H M) (xf : ExF W.K ι H dx fs) (e : EndG W wx σ ι H (DenZ W.K) Q ((W.cfg k true).fnW true f (.exc ⟨c, fs⟩) [] M)) :
   wpAny (model X.prog X.w) X.A (call (.ref (W.fa f)) [.ref a]) (EP X pins σ Q) X.xe s := by
 have P1 := I.pin (a, oe) (List.mem_append_left _ hp)
 have pin : L2H.PinOk X.stack H s (a, oe) := ⟨P1.1, P1.2.1, fun hm => (List.mem_cons.mp (I.stkSub a hm)).elim P1.2.2.1 P1.2.2.2.1, P1.2.2.2.2⟩
 have e0 : Env0 W.P W.w W.K W.mg W.base X.A X.stack s H := by
   rw [← eP, ← eW, ← eK, ← eM, ← eB]
   exact I.env0
 have rc := cl.hotX f x hx X.A X.stack s H a c dx fs oe ι M Q (WE wx σ) ea pin hr e0 m xf (endF_of e)
 rw [← eP, ← eW] at rc
 refine wpAny_call (codeAny_mono rc fun r s' hr' => ?_)
 cases r with
 | error y => exact L2N.passAt tk σ pins H s y s' I hr'
 | ok fl =>
   cases fl with
   | ret u => exact I.after hr'
   | next => exact False.elim hr'
   | brk => exact False.elim hr'
   | cont => exact False.elim hr'
theorem gx_tr {S : Sc} {k : Nat} {cc : CC} {X : Cx} {wx wx' : WX} (g : GX W G S k false cc X wx) {pn : List (Addr × Obj)} {xe : Value → Shared → Prop} (tk : L2N.Takes (X.tr pn xe) wx') (hp : PassesOwn (model X.prog X.w) X.A X.env xe) : GX W G S k false cc (X.tr pn xe) wx' :=
 { eP := g.eP, eW := g.eW, eK := g.eK, eM := g.eM, eB := g.eB, eN := g.eN, nd := g.nd, eS := g.eS, room := g.room, calm := g.calm, hot := (fun z => nomatch z), takes := tk, pass := hp, st := g.st, fr := g.fr, ok := g.ok, calls := g.calls, lam := g.lam,
   xc := (fun _ z => nomatch z), xp := (fun hc a c dx hx => (g.nx rfl a c dx hx).elim), nx := g.nx, xl := (fun hc hh pn' xe' wx'' tk' => g.xl hc hh pn' xe' wx'' tk') }
def scS (W : Wd) (S : Sc) (a : Addr) (cls : Value) (dx : Option Addr) : Sc := ⟨S.CL, S.mono, S.touch, fun a' c' dx' => a' = a ∧ W.cv c' = cls ∧ dx' = dx⟩
theorem gx_suite {S : Sc} {k : Nat} {cc : CC} {X : Cx} {wx : WX} (g : GX W G S k false cc X wx) {a : Addr} {oe : Obj} {pn : List (Addr × Obj)} {cls : Value} {dx : Option Addr} (hz : L2N.Zn cls dx oe) (hf : ∃ vs, oe.data = .fields vs) : GX W G (scS W S a cls dx) k true cc (X.suite a ((a, oe) :: pn)) wx0 := by
 have ea : ∀ c, W.cv c = cls → ErrAt W (X.suite a ((a, oe) :: pn)).A a c dx oe := fun c e => ⟨⟨rfl, by
   obtain ⟨vs, hv⟩ := hf
   exact ⟨vs, hv, hz.2.2 vs hv⟩⟩, by rw [e]; exact hz.zc, hf⟩
 have rm : L2H.RoomH k (X.suite a ((a, oe) :: pn)).A := ⟨(g.calm rfl).2.dp, (g.calm rfl).2.un⟩
 have tk : L2N.Takes (X.suite a ((a, oe) :: pn)) wx0 := fun _ _ x => by
   obtain ⟨_, _, _, _, _, _, _, _, _, _, _, _, _, _, _, _, z⟩ := x
   exact z.elim
 have xc : ∀ (f : Nat) (x : Str) (a' : Addr) (c : Nat) (dx' : Option Addr) (fs : List (Str × D)), G.nm[f]? = some x → (scS W S a cls dx).XA a' c dx' → ∀ (pins : List (Addr × Obj)) (s : Shared) (σ : L2.St) (H : Hp) (Q : VK) (ι : Io) (M : Mem), Inv (X.suite a ((a, oe) :: pn)) pins σ H s → MI W ι H M → ExF W.K ι H dx' fs →
     EndG W wx0 σ ι H (DenZ W.K) Q ((W.cfg k true).fnW true f (.exc ⟨c, fs⟩) [] M) → wpAny (model (X.suite a ((a, oe) :: pn)).prog (X.suite a ((a, oe) :: pn)).w) (X.suite a ((a, oe) :: pn)).A (call (.ref (W.fa f)) [.ref a']) (EP (X.suite a ((a, oe) :: pn)) pins σ Q) (X.suite a ((a, oe) :: pn)).xe s := fun f x a' c dx' fs hx hxa pins s σ H Q ι M I m xf e => by
   obtain ⟨rfl, h2, rfl⟩ := hxa
   exact call_err (X := X.suite a' ((a', oe) :: pn)) g.eP g.eW g.eK g.eM g.eB (g.calls k (Nat.le_refl _)) rm tk (ea c h2) List.mem_cons_self hx I m xf e
 have xp : ∀ (a' : Addr) (c : Nat) (dx' : Option Addr), (scS W S a cls dx).XA a' c dx' → ∃ oe', (a', oe') ∈ (X.suite a ((a, oe) :: pn)).pn ∧ Zc (W.cv c) dx' oe' ∧ ∃ vs, oe'.data = .fields vs := fun a' c dx' hxa => by
   obtain ⟨rfl, h2, rfl⟩ := hxa
   exact ⟨oe, List.mem_cons_self, (ea c h2).zc, hf⟩
 have ho : L2H.HotC (X.suite a ((a, oe) :: pn)) := by
   obtain ⟨vs, hv⟩ := hf
   exact ⟨(a, oe), ⟨rfl, vs, hv, hz.2.2 vs hv⟩, List.mem_cons_self⟩
 exact { eP := g.eP, eW := g.eW, eK := g.eK, eM := g.eM, eB := g.eB, eN := g.eN, nd := g.nd, eS := g.eS, room := rm, calm := (fun z => nomatch z), hot := (fun _ => ho), takes := tk, pass := PassesOwn.never, st := g.st, fr := g.fr, ok := g.ok, calls := g.calls, lam := g.lam, xc := (fun _ _ => xc), xp := (fun _ => xp), nx := (fun z => nomatch z), xl := (fun _ z => nomatch z) }
theorem sr_toS {S : Sc} {a : Addr} {cls : Value} {dx : Option Addr} {ι : Io} {H : Hp} {σ : L2.St} {ρ : Env} (hn : ∀ a c dx, ¬ S.XA a c dx) (s : SR W.K S ι H σ ρ) : SR W.K (scS W S a cls dx) ι H σ ρ :=
 ⟨s.len, fun i sl q => by
   have h := s.ix i sl q
   cases sl with
   | exc e =>
     obtain ⟨a, dx, _, h2, _⟩ := h
     exact (hn a e.c dx h2).elim
   | _ => exact h⟩
theorem sr_ofS {S : Sc} {a : Addr} {cls : Value} {dx : Option Addr} {ι : Io} {H : Hp} {σ : L2.St} {ρ : Env} (s : SR W.K (scS W S a cls dx) ι H σ ρ) : SR W.K S ι H σ (dropx ρ) := by
 refine ⟨by simp [dropx, s.len], fun i sl q => ?_⟩
 unfold dropx at q
 rw [List.getElem?_map] at q
 cases e : ρ[i]? with
 | none => rw [e] at q; cases q
 | some s0 =>
   rw [e] at q
   have h := s.ix i s0 e
   cases s0 with
   | exc e => cases q; trivial
   | no => cases q; trivial
   | z v => cases q; exact h
   | clo a b c => cases q; exact h
   | scr ns => cases q; exact h
theorem sr_exc {S : Sc} {a : Addr} {cls : Value} {dx : Option Addr} {ι : Io} {H : Hp} {σ : L2.St} {ρ : Env} (s : SR W.K (scS W S a cls dx) ι H σ ρ) (i : Nat) {c : Nat} {fs : List (Str × D)} (hc : W.cv c = cls) (xf : ExF W.K ι H dx fs) : SR W.K (scS W S a cls dx) ι H (σ.set i (some (.ref a))) (ρ.set i (.exc ⟨c, fs⟩)) := by
 refine ⟨by simp [s.len], fun j sl q => ?_⟩
 by_cases hj : i = j
 · subst hj
   have hl : i < ρ.length := by
     have := (List.getElem?_eq_some_iff.mp q).1
     simpa using this
   rw [List.getElem?_set_self hl] at q
   cases Option.some.inj q
   exact ⟨a, dx, List.getElem?_set_self (by rw [s.len]; exact hl), ⟨rfl, hc, rfl⟩, xf⟩
 · rw [List.getElem?_set_ne hj] at q ⊢
   exact s.ix j sl q
def tSu (W : Wd) (S : Sc) (fs : Env → Mem → O) : Addr → Value → Option Addr → TS := fun a cls d => tS W (scS W S a cls d) wx0 fs
theorem js_try_as {S : Sc} {k : Nat} {cc : CC} {X : Cx} {wx : WX} (g : GX W G S k false cc X wx) {b : List Stmt} {s0 : Stmt} {ss : List Stmt} {y n : Str} {np pos' pos : Pos} {i c : Nat} {fb fs : Env → Mem → O} (ha : cc.all = true) (hy : G.cn[c]? = some y) (hg : isGlob cc y = true) (hp : plainName y = true)
   (hb : ∀ {X' : Cx} {wx' : WX}, GX W G S k false cc X' wx' → PSs X' b (tS W S wx' fb)) (hs : ∀ {S' : Sc} {X' : Cx}, GX W G S' k true cc X' wx0 → PSs X' (s0 :: ss) (tS W S' wx0 fs)) (hN : cc.N[i]? = some n) (hn : cc.sc.names.lookup n = some .local) :
   PS X (.Try b [.ExceptHandler (some (.Name y np)) (some n) (s0 :: ss) pos'] [] [] pos) (tS W S wx fun ρ M => match fb ρ M with
     | .ex e ρ1 M1 => if W.sub e.c c then (fs (ρ1.set i (.exc e)) M1).noex (some i) else .ex e ρ1 M1
     | x => x) := by
 obtain ⟨f1, f2⟩ := g.fr ha
 obtain ⟨y1, y2, _⟩ := plain_dbg hp
 obtain ⟨C, c1, c2, _⟩ := g.ok.cls c y hy
 refine (L2N.ps_try_as (i := i) (ts := tSu W S fs) (tb := fun wx' => tS W S wx' fb) (c := W.cv c) f1 f2 g.nd (by rw [g.eN]; exact hN) (by show X.env.scope.names.lookup n = _; rw [g.eS]; exact hn) ⟨g.gl hg, y1, .inl (by rw [g.eM, c2]; exact c1)⟩ g.takes (fun wx' pn xe tk hpo => hb (gx_tr g tk hpo)) (fun a oe cls d pn hz hf => ?_)).imp fun D σ H hq => ?_
 · exact hs (gx_suite g hz hf)
 · obtain ⟨ι, ρ, M, rl, e⟩ := hq
   dsimp only at e
   refine ⟨ι, ρ, M, rl, ?_⟩
   cases q : fb ρ M with
   | nx ρ1 M1 => rw [q] at e; exact e
   | rt z M1 => rw [q] at e; exact e
   | bad => rw [q] at e; exact e
   | ex x ρ1 M1 =>
     rw [q] at e
     intro ι' dx σ' H' ex rl' xf
     dsimp only at e
     obtain ⟨xc, xfs⟩ := x
     refine ⟨W.sub xc c, by rw [g.eK]; exact g.ok.exm xc c y hy, fun hb1 a hna => ?_, fun hb1 => ?_⟩
     · rw [if_pos hb1] at e
       refine ⟨ι', ρ1.set i (.exc ⟨xc, xfs⟩), M1, ⟨sr_exc (sr_toS (g.nx rfl) rl'.s) i rfl xf, rl'.m⟩, ?_⟩
       have e := EndS.mono ex e
       cases q2 : fs (ρ1.set i (.exc ⟨xc, xfs⟩)) M1 with
       | nx ρ2 M2 =>
         rw [q2] at e
         exact fun ι2 σ2 H2 ex2 rl2 => e ι2 _ H2 ex2 ⟨(sr_ofS rl2.s).no i, rl2.m⟩
       | rt z M2 => rw [q2] at e; exact e
       | ex x2 ρ2 M2 => rw [q2] at e; exact e.elim
       | bad => rw [q2] at e; exact e.elim
     · rw [if_neg (by rw [hb1]; exact Bool.false_ne_true)] at e
       exact e ι' dx σ' H' ex rl' xf
theorem js_try_only {S : Sc} {k : Nat} {cc : CC} {X : Cx} {wx : WX} (g : GX W G S k false cc X wx) {b : List Stmt} {s0 : Stmt} {ss : List Stmt} {y : Str} {np pos' pos : Pos} {c : Nat} {fb fs : Env → Mem → O} (ha : cc.all = true) (hy : G.cn[c]? = some y) (hg : isGlob cc y = true) (hp : plainName y = true)
   (hb : ∀ {X' : Cx} {wx' : WX}, GX W G S k false cc X' wx' → PSs X' b (tS W S wx' fb)) (hs : ∀ {S' : Sc} {X' : Cx}, GX W G S' k true cc X' wx0 → PSs X' (s0 :: ss) (tS W S' wx0 fs)) :
   PS X (.Try b [.ExceptHandler (some (.Name y np)) none (s0 :: ss) pos'] [] [] pos) (tS W S wx fun ρ M => match fb ρ M with
     | .ex e ρ1 M1 => if W.sub e.c c then (fs ρ1 M1).noex none else .ex e ρ1 M1
     | x => x) := by
 obtain ⟨f1, f2⟩ := g.fr ha
 obtain ⟨y1, y2, _⟩ := plain_dbg hp
 obtain ⟨C, c1, c2, _⟩ := g.ok.cls c y hy
 refine (L2N.ps_try_many (l := [(W.cv c, tSu W S fs)]) (tb := fun wx' => tS W S wx' fb) f1 f2 g.takes (fun wx' pn xe tk hpo => hb (gx_tr g tk hpo)) (.cons ⟨g.gl hg, y1, .inl (by rw [g.eM, c2]; exact c1)⟩ (fun a oe cls d pn hz hf => ?_) .nil)).imp fun D σ H hq => ?_
 · exact hs (gx_suite g hz hf)
 · obtain ⟨ι, ρ, M, rl, e⟩ := hq
   dsimp only at e
   refine ⟨ι, ρ, M, rl, ?_⟩
   cases q : fb ρ M with
   | nx ρ1 M1 => rw [q] at e; exact e
   | rt z M1 => rw [q] at e; exact e
   | bad => rw [q] at e; exact e
   | ex x ρ1 M1 =>
     rw [q] at e
     intro ι' dx σ' H' ex rl' xf
     dsimp only at e
     obtain ⟨xc, xfs⟩ := x
     refine ⟨W.sub xc c, by rw [g.eK]; exact g.ok.exm xc c y hy, fun hb1 a hna => ?_, fun hb1 => ?_⟩
     · rw [if_pos hb1] at e
       refine ⟨ι', ρ1, M1, ⟨sr_toS (g.nx rfl) rl'.s, rl'.m⟩, ?_⟩
       have e := EndS.mono ex e
       cases q2 : fs ρ1 M1 with
       | nx ρ2 M2 =>
         rw [q2] at e
         exact fun ι2 σ2 H2 ex2 rl2 => e ι2 _ H2 ex2 ⟨sr_ofS rl2.s, rl2.m⟩
       | rt z M2 => rw [q2] at e; exact e
       | ex x2 ρ2 M2 => rw [q2] at e; exact e.elim
       | bad => rw [q2] at e; exact e.elim
     · rw [if_neg (by rw [hb1]; exact Bool.false_ne_true)] at e
       exact e ι' dx σ' H' ex rl' xf
mutual
theorem sS : ∀ (s : Zt.S) {S : Sc} {k : Nat} {h : Bool} {cc : CC} {X : Cx} {wx : WX} (_ : GX W G S k h cc X wx) {x : Stmt}, chkS G cc s x = true → PS X x (tS W S wx (evS (W.cfg k h) s))
 | .asg t e, S, k, h, cc, X, wx, g, x, hc => by
   unfold chkS at hc
   split at hc
   · simp only [Bool.and_eq_true] at hc
     obtain ⟨⟨⟨h1, h2⟩, h3⟩, h4⟩ := hc
     refine (js_asg g (sE e g h2) h1 (sws h3) (swp (fun es p z => ?_) h4)).to fun ρ M => by rw [evS] <;> rfl
     subst z
     cases t <;> cases h1
   · cases hc
 | .never, S, k, h, cc, X, wx, g, x, hc => bad_s fun ρ M => by rw [evS]
 | .par is es, S, k, h, cc, X, wx, g, x, hc => by
   unfold chkS at hc
   split at hc
   · rename_i ts kt pt vs k2 p2 pos
     simp only [Bool.and_eq_true] at hc
     have hn : vs.all notStar = true := by
       have h2 := hc.2
       unfold parOk at h2
       simp only [Bool.and_eq_true] at h2
       exact h2.1.1.1.1.2
     exact (js_par g (sEs es g hc.1 hn) hc.2).to fun ρ M => by rw [evS]
   · cases hc
 | .parN is es, S, k, h, cc, X, wx, g, x, hc => by
   unfold chkS at hc
   split at hc
   · simp only [Bool.and_eq_true, decide_eq_true_eq] at hc
     obtain ⟨⟨⟨⟨⟨h1, h2⟩, h3⟩, h4⟩, h5⟩, h6⟩ := hc
     exact (js_parN g (sEs es g h1 h2) h3 h4 h5 h6).to fun ρ M => by rw [evS]
   · cases hc
 | .setI o i e, S, k, h, cc, X, wx, g, x, hc => by
   unfold chkS at hc
   split at hc
   · simp only [Bool.and_eq_true] at hc
     obtain ⟨⟨⟨⟨h1, h2⟩, h3⟩, h4⟩, h5⟩ := hc
     exact (js_setI g (sE o g h1) (sE i g h2) (sE e g h4) h3 (sws h5) (swp (fun es p z => by cases z) rfl)).to fun ρ M => by rw [evS] <;> rfl
   · cases hc
 | .ex e, S, k, h, cc, X, wx, g, x, hc => by
   unfold chkS at hc
   split at hc
   · simp only [Bool.and_eq_true] at hc
     exact (js_ex (sE e g hc.1) (sws0 hc.2)).to fun ρ M => by rw [evS]
   · cases hc
 | .ret e, S, k, h, cc, X, wx, g, x, hc => by
   unfold chkS at hc
   split at hc
   · exact (js_ret (sE e g hc)).to fun ρ M => by rw [evS]
   · split at hc
     · exact js_retN.to fun ρ M => by rw [evS, evE]
     · cases hc
   · cases hc
 | .ifs c a b, S, k, h, cc, X, wx, g, x, hc => by
   unfold chkS at hc
   split at hc
   · simp only [Bool.and_eq_true] at hc
     exact (js_if (sT c g hc.1.1) (sSs a g hc.1.2) (sSs b g hc.2)).to fun ρ M => by rw [evS]
   · cases hc
 | .for t it body, S, k, h, cc, X, wx, g, x, hc => by
   unfold chkS at hc
   split at hc
   · simp only [Bool.and_eq_true] at hc
     obtain ⟨⟨⟨h1, h2⟩, h3⟩, h4⟩ := hc
     exact (js_for g (sI it g h1) h3 (sSs body g h4) (notSet_f h2 _)).to fun ρ M => by rw [evS]
   · cases hc
 | .forR t e body, S, k, h, cc, X, wx, g, x, hc => by
   unfold chkS at hc
   split at hc
   · simp only [Bool.and_eq_true] at hc
     obtain ⟨⟨⟨⟨_, h1⟩, h2⟩, h3⟩, h4⟩ := hc
     exact (js_forR g (sE e g h1) h3 (sSs body g h4) (notSet_f h2 _)).to fun ρ M => by rw [evS] <;> rfl
   · cases hc
 | .forD t i body, S, k, h, cc, X, wx, g, x, hc => by
   unfold chkS at hc
   split at hc
   · rename_i y v pv b pos
     simp only [Bool.and_eq_true, decide_eq_true_eq] at hc
     obtain ⟨⟨⟨⟨h1, h2⟩, h3⟩, h4⟩, h5⟩ := hc
     have hv : PE X (.Name v pv) (tD W S wx fun ρ M => R.of (getZ ρ i) M) := (sE (.v i) g (x := .Name v pv) (by
       unfold chkE
       simp [h1, h2, h3])).to fun ρ M => by rw [evE]
     refine (js_forD g hv h4 (sSs body g h5) fun _ => rfl).to fun ρ M => ?_
     rw [evS] <;> rfl
   · cases hc
 | .asg2 i elt tg it cond tg1 e1 cond1 own own1, S, k, h, cc, X, wx, g, x, hc => by
   cases h with
   | true => exact bad_s fun ρ M => by rw [evS, cfg_hot] <;> rfl
   | false =>
     unfold chkS at hc
     split at hc
     · rename_i y py z t u cs t1 rn rp u1 rpos cs1 scope pos spos
       simp only [Bool.and_eq_true, decide_eq_true_eq, Bool.not_eq_true'] at hc
       obtain ⟨⟨⟨⟨⟨⟨⟨⟨⟨⟨⟨⟨⟨⟨⟨⟨⟨⟨⟨⟨h1, h2⟩, h3⟩, h4⟩, h5⟩, h6⟩, h7⟩, h8⟩, h9⟩, k1⟩, k2⟩, k3⟩, k4⟩, k5⟩, k6⟩, k7⟩, k8⟩, q1⟩, q2⟩, q3⟩, q4⟩ := hc
       subst k2
       have al : ∀ {l o : List Nat}, l.all (fun j => o.contains j) = true → ∀ i ∈ l, i ∈ o := fun h i hi => by simpa using List.all_eq_true.mp h i hi
       refine (js_asg2 g (sI it g h2) h4 h5 (al h6) (al h7) (al h8) h9 k6 (fun X' g' => sC cond g' k1) (fun X' g' => sC cond1 g' k7) (fun X' g' => sE elt g' k8) (fun X' g' => sE e1 g' k4) k5 k3 (notSet_f h3 _) h1 q1 q2 q3 q4).to fun ρ M => ?_
       rw [evS, cfg_hot, if_neg Bool.false_ne_true]
     · cases hc
 | .asgL i e, S, k, h, cc, X, wx, g, x, hc => by
   unfold chkS at hc
   split at hc
   · rename_i y py z pos
     simp only [Bool.and_eq_true, decide_eq_true_eq] at hc
     obtain ⟨⟨h1, h2⟩, h3⟩ := hc
     unfold chkL at h3
     split at h3
     · rename_i elt tg it cond own ye t0 i0 cs0 scope pos0
       simp only [Bool.and_eq_true, decide_eq_true_eq, Bool.not_eq_true'] at h3
       obtain ⟨⟨⟨q1, q2⟩, q3⟩, q4⟩ := h3
       have h2' := h2
       unfold chkE at h2'
       simp only [Bool.and_eq_true] at h2'
       obtain ⟨⟨⟨⟨⟨⟨⟨k1, k2⟩, k3⟩, k4⟩, k5⟩, k6⟩, k7⟩, k8⟩ := h2'
       refine (js_asgL g (js_lc g (sI it g k1) k3 k4 (fun i hi => ?_) k6 (fun X' g' => sC cond g' k7) (fun X' g' => sE elt g' k8) (notSet_f k2 _) h1 q1 q2 q3 q4) fun σ H Q hq => lc_rd hq).to fun ρ M => ?_
       · cases tg with
         | nm j =>
           have : i = j := by simpa [Tg.ids] using hi
           rw [this]
           simpa using k5
         | tp js =>
           have := List.all_eq_true.mp k5 i hi
           simpa using this
       · rw [evS, evE]
     · rename_i elt tg it cond own ye t0 i0 cs0 scope pos0
       simp only [Bool.and_eq_true, decide_eq_true_eq, Bool.not_eq_true'] at h3
       obtain ⟨⟨⟨q1, q2⟩, q3⟩, q4⟩ := h3
       have h2' := h2
       unfold chkE at h2'
       simp only [Bool.and_eq_true] at h2'
       obtain ⟨⟨⟨⟨⟨⟨⟨k1, k2⟩, k3⟩, k4⟩, k5⟩, k6⟩, k7⟩, k8⟩ := h2'
       refine (js_asgL g (js_lcR g (sE it g k1) k3 k4 (fun i hi => ?_) k6 (fun X' g' => sC cond g' k7) (fun X' g' => sE elt g' k8) (notSet_f k2 _) h1 q1 q2 q3 q4) fun σ H Q hq => lc_rdR hq).to fun ρ M => ?_
       · cases tg with
         | nm j =>
           have : i = j := by simpa [Tg.ids] using hi
           rw [this]
           simpa using k5
         | tp js =>
           have := List.all_eq_true.mp k5 i hi
           simpa using this
       · rw [evS, evE] <;> rfl
     · cases h3
   · cases hc
 | .while c body, S, k, h, cc, X, wx, g, x, hc => by
   unfold chkS at hc
   split at hc
   · simp only [Bool.and_eq_true] at hc
     exact (js_while g (n := W.wf) (sT c g hc.1) (sSs body g hc.2)).to fun ρ M => by
       rw [evS]
       cases k <;> rfl
   · cases hc
 | .raise c, S, k, h, cc, X, wx, g, x, hc => by
   unfold chkS at hc
   split at hc
   · simp only [Bool.and_eq_true, decide_eq_true_eq] at hc
     exact (js_raise g hc.1.1.1 hc.1.1.2 hc.1.2 hc.2).to fun ρ M => by rw [evS, cfg_hot]
   · cases hc
 | .raiseI c f e, S, k, h, cc, X, wx, g, x, hc => by
   unfold chkS at hc
   split at hc
   · simp only [Bool.and_eq_true, decide_eq_true_eq] at hc
     obtain ⟨⟨⟨⟨⟨h1, h2⟩, h3⟩, h4⟩, h5⟩, h6⟩ := hc
     exact (js_raiseI g h1.symm h2 h3 h4 h5 (sE e g h6)).to fun ρ M => by
       rw [evS, cfg_hot, cfg_lv] <;> rfl
   · cases hc
 | .try body c nm suite, S, k, h, cc, X, wx, g, x, hc => by
   cases h with
   | true => exact bad_s fun ρ M => by rw [evS, cfg_hot] <;> rfl
   | false =>
     unfold chkS at hc
     split at hc
     · simp only [Bool.and_eq_true, decide_eq_true_eq] at hc
       obtain ⟨⟨⟨⟨⟨⟨h1, h2⟩, h3⟩, h4⟩, h5⟩, h6⟩, h7⟩ := hc
       have hot : (W.cfg k false).heat = W.cfg k true := by cases k <;> rfl
       split at h7
       · refine (js_try_only g h1 h2 h3 h4 (fun g' => sSs body g' h5) (fun g' => sSs suite g' h6)).to fun ρ M => ?_
         rw [evS, cfg_hot, cfg_sub, hot]
         rfl
       · simp only [Bool.and_eq_true, decide_eq_true_eq] at h7
         refine (js_try_as g h1 h2 h3 h4 (fun g' => sSs body g' h5) (fun g' => sSs suite g' h6) h7.1 h7.2).to fun ρ M => ?_
         rw [evS, cfg_hot, cfg_sub, hot]
         rfl
       · cases h7
     · cases hc
 | .pass, S, k, h, cc, X, wx, g, x, hc => by
   unfold chkS at hc
   split at hc
   · exact js_pass.to fun ρ M => by rw [evS]
   · cases hc
theorem sSs : ∀ (s : Zt.Ss) {S : Sc} {k : Nat} {h : Bool} {cc : CC} {X : Cx} {wx : WX} (_ : GX W G S k h cc X wx) {xs : List Stmt}, chkSs G cc s xs = true → PSs X xs (tS W S wx (evSs (W.cfg k h) s))
 | .nil, S, k, h, cc, X, wx, g, xs, hc => by
   unfold chkSs at hc
   split at hc
   · exact js_nil.to fun ρ M => by rw [evSs]
   · cases hc
 | .cons s r, S, k, h, cc, X, wx, g, xs, hc => by
   unfold chkSs at hc
   split at hc
   · simp only [Bool.and_eq_true] at hc
     exact (js_cons (sS s g hc.1) (sSs r g hc.2)).to fun ρ M => by rw [evSs]
   · cases hc
end
end
end Zt
set_option maxHeartbeats 4000000
namespace Zt
open PySem PySem.Spec PyProof.Rows L2
structure DefOk (W : Wd) (G : Stat) (i : Nat) : Prop where
 is : ∃ (d : Def) (N : List Str) (scope : Scope) (body : List Stmt) (name qual : Str) (params : Arguments) (dV kV doc pm cdv ct oc : Value) (an od : Option Addr) (osl : Array (Option Value)) (lam : Bool),
   W.T[i]? = some d ∧ W.K.lookup (W.fa i) = some ⟨oc, od, .func (PySem.W.fnOf name qual params body scope dV kV doc pm an cdv ct), osl⟩ ∧ W.fd i = PySem.W.fnOf name qual params body scope dV kV doc pm an cdv ct ∧
   PySem.W.codeIn W.K cdv qual = true ∧ FnScope N (W.ps i) scope ∧ d.ns = N.length ∧ d.np = (W.ps i).length ∧ chkSs G ⟨N, scope, true, true, lam, fun _ => true⟩ d.body body = true ∧ (lam = true → ∃ c P, cdv = .ref c ∧ (P, (qual ++ ".<locals>.") ++ ("<lambda>" : Str)) ∈ W.tb ∧ LamX.TabB W.base W.mg c P)
section
variable {W : Wd} {G : Stat}
theorem sr_start {S : Sc} {K : PySem.W.Frag} {ι : Io} {H : Hp} {N : List Str} {vs : List V} {sls : List Sl} {d : Def} (hd : d.ns = N.length) (hl : vs.length = sls.length) (hs : ∀ (i : Nat) (s : Sl) (v : V), sls[i]? = some s → vs[i]? = some v → SlD K S ι H (some (some v)) s) : SR K S ι H (L2.start N vs) (startE d sls) := by
 refine ⟨by simp [L2.start, startE, hd, hl], fun i s hi => ?_⟩
 unfold startE at hi
 by_cases hlt : i < sls.length
 · rw [List.getElem?_append_left hlt] at hi
   obtain ⟨v, hv⟩ := get_of_lt (show i < vs.length by rw [hl]; exact hlt)
   have e : (L2.start N vs)[i]? = some (some v) := by
     unfold L2.start
     rw [List.getElem?_append_left (by rw [List.length_map, hl]; exact hlt), List.getElem?_map, hv]
     rfl
   rw [e]
   exact hs i s v hi hv
 · rw [List.getElem?_append_right (by omega), List.getElem?_replicate] at hi
   split at hi
   · cases hi
     trivial
   · cases hi
theorem slz_start {K : PySem.W.Frag} {ι : Io} {H : Hp} : ∀ {vs : List V} {zs : List Z}, DenZL K ι H vs zs → ∀ (i : Nat) (s : Sl) (v : V), (zs.map Sl.z)[i]? = some s → vs[i]? = some v → SlD K Sc.none ι H (some (some v)) s
 | _, _, .nil, i, s, v, h, _ => by simp at h
 | _, _, .cons d l, 0, s, v, h, hv => by
   cases h
   cases hv
   exact ⟨_, rfl, d⟩
 | _, _, .cons d l, i + 1, s, v, h, hv => slz_start l i s v h hv
theorem endS_fin {S : Sc} {ι : Io} {H : Hp} {Q : VK} {E : XK} {o : O} (e : EndF W ι H Q E (finB o)) : EndS W S (fun cls d _ H' => E cls d H') { nx := fun _ H' => Q .non H', rt := Q } ι H o := by
 cases o with
 | nx ρ M => exact fun ι' σ' H' x rl => e ι' .non H' x rl.m (.d .non)
 | rt z M => exact e
 | ex x ρ M => exact fun ι' dx σ' H' ex rl xf => e ι' dx H' ex rl.m xf
 | bad => exact e
theorem fn_step {k : Nat} {h : Bool} {i : Nat} {d : Def} {ι : Io} {H : Hp} {Q : VK} {E : XK} {zs : List Z} {M : Mem} (hd : W.T[i]? = some d) (e : EndF W ι H Q E ((W.cfg (k + 1) h).fn h i zs M)) : EndF W ι H Q E (finB (evSs (W.cfg k h) d.body (startE d (zs.map .z)) M)) := by
 have e : EndF W ι H Q E (match W.T[i]? with
     | some d => if zs.length = d.np then finB (evSs (lev W.T W.sub W.gv W.wf k h) d.body (startE d (zs.map .z)) M) else .bad
     | none => .bad) := e
 rw [hd] at e
 dsimp only at e
 split at e
 · exact e
 · exact e.elim
theorem fn_stepW {k : Nat} {h h' : Bool} {i : Nat} {d : Def} {ι : Io} {H : Hp} {Q : VK} {E : XK} {sl : Sl} {zs : List Z} {M : Mem} (hd : W.T[i]? = some d) (e : EndF W ι H Q E ((W.cfg (k + 1) h').fnW h i sl zs M)) : EndF W ι H Q E (finB (evSs (W.cfg k h) d.body (startE d (sl :: zs.map .z)) M)) := by
 have e : EndF W ι H Q E (match W.T[i]? with
     | some d => if zs.length + 1 = d.np then finB (evSs (lev W.T W.sub W.gv W.wf k h) d.body (startE d (sl :: zs.map .z)) M) else .bad
     | none => .bad) := e
 rw [hd] at e
 dsimp only at e
 split at e
 · exact e
 · exact e.elim
theorem no_calm {k : Nat} {f : Addr} {fd : FuncData} {ps : List Str} {sp : Sp} (hl : ∀ vs H Q E, sp vs H Q E → vs.length = ps.length) (h : ∀ vs H Q E, sp vs H Q E → False) : FnOk W.P W.w W.K W.mg W.base (L2N.CX W.P W.w) k f fd ps sp :=
 ⟨hl, fun A outer s H args us vs Q E _ _ _ _ q => (h _ _ _ _ q).elim⟩
theorem no_hot {k : Nat} {f : Addr} {fd : FuncData} {ps : List Str} {sp : Sp} (hl : ∀ vs H Q E, sp vs H Q E → vs.length = ps.length) (h : ∀ vs H Q E, sp vs H Q E → False) : L2H.FnH W.P W.w W.K W.mg W.base (L2N.CX W.P W.w) k f fd ps sp :=
 ⟨hl, fun A outer s H args us vs Q E p _ _ _ _ _ _ q => (h _ _ _ _ q).elim⟩
theorem vals_snoc {f : Addr} : ∀ {vs : List V} {us : List Value}, Vals vs us → Vals (vs ++ [.ref f]) (us ++ [.ref f])
 | _, _, .nil => .cons rfl .nil
 | _, _, .cons r rr => .cons r (vals_snoc rr)
theorem clo_start {S : Sc} {K : PySem.W.Frag} {ι : Io} {H : Hp} {f0 : Addr} {sl : Sl} : ∀ {vs : List V} {zs : List Z}, DenZL K ι H vs zs → SlD K S ι H (some (some (.ref f0))) sl → ∀ (i : Nat) (s : Sl) (u : V), (zs.map Sl.z ++ [sl])[i]? = some s → (vs ++ [.ref f0])[i]? = some u → SlD K S ι H (some (some u)) s
 | _, _, .nil, hs, 0, s, u, h1, h2 => by
   cases h1
   cases h2
   exact hs
 | _, _, .nil, hs, i + 1, s, u, h1, h2 => by cases h1
 | _, _, .cons d l, hs, 0, s, u, h1, h2 => by
   cases h1
   cases h2
   exact ⟨_, rfl, d⟩
 | _, _, .cons d l, hs, i + 1, s, u, h1, h2 => clo_start l hs i s u h1 h2
theorem fn_stepL {k : Nat} {i : Nat} {d : Def} {ι : Io} {H : Hp} {Q : VK} {E : XK} {zs : List Z} {ps : List Nat} {b : Zt.E} {cap : List (Option Z)} {M : Mem} (hd : W.T[i]? = some d) (e : EndF W ι H Q E ((W.cfg (k + 1) false).fnL i zs ps b cap M)) : zs.length + 1 = d.np ∧ EndF W ι H Q E (finB (evSs (W.cfg k false) d.body (startE d (zs.map .z ++ [.clo ps b cap])) M)) := by
 have e : EndF W ι H Q E (match W.T[i]? with
     | some d => if zs.length + 1 = d.np then finB (evSs (lev W.T W.sub W.gv W.wf k false) d.body (startE d (zs.map .z ++ [.clo ps b cap])) M) else .bad
     | none => .bad) := e
 rw [hd] at e
 dsimp only at e
 split at e
 · rename_i hn
   exact ⟨hn, e⟩
 · exact e.elim
theorem fn_stepX {k : Nat} {i : Nat} {d : Def} {ι : Io} {H : Hp} {Q : VK} {E : XK} {sl : Sl} {M : Mem} (hd : W.T[i]? = some d) (e : EndF W ι H Q E ((W.cfg (k + 1) true).fnW true i sl [] M)) : d.np = 1 ∧ EndF W ι H Q E (finB (evSs (W.cfg k true) d.body (startE d [sl]) M)) := by
 have e : EndF W ι H Q E (match W.T[i]? with
     | some d => if ([] : List Z).length + 1 = d.np then finB (evSs (lev W.T W.sub W.gv W.wf k true) d.body (startE d (sl :: ([] : List Z).map .z)) M) else .bad
     | none => .bad) := e
 rw [hd] at e
 dsimp only at e
 split at e
 · rename_i hn
   exact ⟨hn.symm, e⟩
 · exact e.elim
theorem calls_zero : Calls W G 0 :=
 ⟨fun i x _ => no_calm (fun vs H Q E h => h.1) fun vs H Q E ⟨_, ι, M, zs, _, _, e⟩ => e.elim, fun i x _ => no_hot (fun vs H Q E h => h.1) fun vs H Q E ⟨_, ι, M, zs, _, _, e⟩ => e.elim,
   fun i x _ => no_calm (fun vs H Q E h => h.1) fun vs H Q E ⟨_, ι, M, v, vs', ns, zs, _, _, _, _, e⟩ => e.elim, fun i x _ => no_hot (fun vs H Q E h => h.1) fun vs H Q E ⟨_, ι, M, v, vs', ns, zs, _, _, _, _, e⟩ => e.elim,
   fun i x _ Sl A outer s H f0 ps b σc cap ι M us vs zs Q E _ _ _ _ _ _ _ _ _ _ e => e.elim, fun i x _ A outer s H a c dx fs oe ι M Q E _ _ _ _ _ _ e => e.elim⟩
abbrev LamOk (W : Wd) (lam : Bool) (cdv : Value) (qual : Str) : Prop := lam = true → ∃ c P, cdv = .ref c ∧ (P, (qual ++ ".<locals>.") ++ ("<lambda>" : Str)) ∈ W.tb ∧ LamX.TabB W.base W.mg c P
theorem lam_of {lam : Bool} {cdv : Value} {qual : Str} (hl : LamOk W lam cdv qual) {env : PySem.Env} (h1 : env.code = cdv) (h2 : env.qual = qual ++ ".<locals>.") : lam = true → ∃ c P, LamX.TabB W.base W.mg c P ∧ env.code = .ref c ∧ (P, env.qual ++ ("<lambda>" : Str)) ∈ W.tb := fun h => by
 obtain ⟨c, P, e1, e2, e3⟩ := hl h
 rw [h1, h2]
 exact ⟨c, P, e3, e1, e2⟩
theorem gx_calm {k : Nat} {S : Sc} (ok : WOk W G) (ih : ∀ j, j ≤ k → Calls W G j) {N : List Str} {ps : List Str} {scope : Scope} (Sf : FnScope N ps scope) {qual : Str} {f : Addr} {cdv : Value} {lam : Bool} (hl : LamOk W lam cdv qual) {A : Around} {outer : List PySem.Env} {s : Shared} {H : Hp} {E : XK} (hr : Room k (A.deeper (envOfC qual scope s.heap.objs.size f cdv)))
   (hx : ∀ a c dx, ¬ S.XA a c dx) (xl : XL W S k A outer s H) : GX W G S k false ⟨N, scope, true, true, lam, fun _ => true⟩ (cxOf (L2N.CX W.P W.w) W.P W.w W.K W.mg W.base N qual scope f cdv A outer s H E) (fun cls dx _ H' => E cls dx H') := by
 have vis : ∀ y, isVis ⟨N, scope, true, true, lam, fun _ => true⟩ y = true → Vis scope y := fun y hv => by
   unfold isVis at hv
   split at hv <;> first | exact .inl (by assumption) | exact .inr (.inl (by assumption)) | exact .inr (.inr (by assumption)) | cases hv
 exact { eP := rfl, eW := rfl, eK := rfl, eM := rfl, eB := rfl, eN := rfl, nd := Sf.nd, eS := rfl, room := L2H.roomH_of hr, calm := fun _ => ⟨rfl, hr⟩, hot := (fun z => nomatch z), takes := L2N.takes_of rfl rfl rfl rfl, pass := passes_of rfl, st := fun _ _ => rfl, fr := fun _ => ⟨rfl, rfl⟩, ok := ok, calls := ih, lam := lam_of hl rfl rfl, xc := (fun _ z => nomatch z), xp := (fun _ a c dx z => (hx a c dx z).elim), nx := fun _ => hx, xl := (fun _ _ pn xe wx' tk => xl N qual scope f cdv E hr pn xe wx' tk) }
theorem xl_none {k : Nat} {A : Around} {outer : List PySem.Env} {s : Shared} {H : Hp} : XL W Sc.none k A outer s H := fun N qual scope f cdv E _ pn xe wx _ pins s σ H I f ps b σc ι z => z.elim
theorem gx_hot {k : Nat} {S : Sc} (ok : WOk W G) (ih : ∀ j, j ≤ k → Calls W G j) {N : List Str} {ps : List Str} {scope : Scope} (Sf : FnScope N ps scope) {qual : Str} {f : Addr} {cdv : Value} {lam : Bool} (hl : LamOk W lam cdv qual) {A : Around} {outer : List PySem.Env} {s : Shared} {H : Hp} {E : XK} {p : Addr × Obj} (hot : L2H.Hot1 A p) (hr : L2H.RoomH k (A.deeper (envOfC qual scope s.heap.objs.size f cdv)))
   (hx : ∀ a c dx, S.XA a c dx → ∃ oe, p = (a, oe) ∧ ErrAt W A a c dx oe) : GX W G S k true ⟨N, scope, true, true, lam, fun _ => true⟩ (L2H.cxH (L2N.CX W.P W.w) W.P W.w W.K W.mg W.base N qual scope f cdv A outer s H E p) (fun cls dx _ H' => E cls dx H') := by
 have tk : L2N.Takes (L2H.cxH (L2N.CX W.P W.w) W.P W.w W.K W.mg W.base N qual scope f cdv A outer s H E p) (fun cls dx _ H' => E cls dx H') := L2N.takes_of rfl rfl rfl rfl
 have ea : ∀ a c dx, S.XA a c dx → ∃ oe, p = (a, oe) ∧ ErrAt W (A.deeper (envOfC qual scope s.heap.objs.size f cdv)) a c dx oe := fun a c dx z => by
   obtain ⟨oe, e, h⟩ := hx a c dx z
   exact ⟨oe, e, ⟨h.hot, h.zc, h.fld⟩⟩
 have xc : ∀ (i : Nat) (x : Str) (a : Addr) (c : Nat) (dx : Option Addr) (fs : List (Str × D)), G.nm[i]? = some x → S.XA a c dx → ∀ (pins : List (Addr × Obj)) (s' : Shared) (σ : L2.St) (H' : Hp) (Q : VK) (ι : Io) (M : Mem), Inv (L2H.cxH (L2N.CX W.P W.w) W.P W.w W.K W.mg W.base N qual scope f cdv A outer s H E p) pins σ H' s' → MI W ι H' M → ExF W.K ι H' dx fs →
     EndG W (fun cls dx _ H' => E cls dx H') σ ι H' (DenZ W.K) Q ((W.cfg k true).fnW true i (.exc ⟨c, fs⟩) [] M) → wpAny (model W.P W.w) (A.deeper (envOfC qual scope s.heap.objs.size f cdv)) (call (.ref (W.fa i)) [.ref a]) (EP (L2H.cxH (L2N.CX W.P W.w) W.P W.w W.K W.mg W.base N qual scope f cdv A outer s H E p) pins σ Q) (L2H.cxH (L2N.CX W.P W.w) W.P W.w W.K W.mg W.base N qual scope f cdv A outer s H E p).xe s' := fun i x a c dx fs hi hxa pins s' σ H' Q ι M I m xf e => by
   obtain ⟨oe, rfl, h⟩ := ea a c dx hxa
   exact call_err (X := L2H.cxH (L2N.CX W.P W.w) W.P W.w W.K W.mg W.base N qual scope f cdv A outer s H E (a, oe)) rfl rfl rfl rfl rfl (ih k (Nat.le_refl k)) hr tk h (List.mem_singleton.mpr rfl) hi I m xf e
 have xp : ∀ (a : Addr) (c : Nat) (dx : Option Addr), S.XA a c dx → ∃ oe, (a, oe) ∈ (L2H.cxH (L2N.CX W.P W.w) W.P W.w W.K W.mg W.base N qual scope f cdv A outer s H E p).pn ∧ Zc (W.cv c) dx oe ∧ ∃ vs, oe.data = .fields vs := fun a c dx hxa => by
   obtain ⟨oe, rfl, h⟩ := ea a c dx hxa
   exact ⟨oe, List.mem_singleton.mpr rfl, h.zc, h.fld⟩
 exact { eP := rfl, eW := rfl, eK := rfl, eM := rfl, eB := rfl, eN := rfl, nd := Sf.nd, eS := rfl, room := hr, calm := (fun z => nomatch z), hot := fun _ => ⟨p, hot, List.mem_singleton.mpr rfl⟩, takes := tk, pass := passes_of rfl, st := fun _ _ => rfl, fr := fun _ => ⟨rfl, rfl⟩, ok := ok, calls := ih, lam := lam_of hl rfl rfl, xc := (fun _ _ => xc), xp := (fun _ => xp), nx := (fun z => nomatch z), xl := (fun _ z => nomatch z) }
theorem scr_start {K : PySem.W.Frag} {ι : Io} {H : Hp} {v : V} {vs : List V} {sl : Sl} {zs : List Z} (h : SlD K Sc.none ι H (some (some v)) sl) (d : DenZL K ι H vs zs) : ∀ (i : Nat) (s : Sl) (u : V), (sl :: zs.map Sl.z)[i]? = some s → (v :: vs)[i]? = some u → SlD K Sc.none ι H (some (some u)) s
 | 0, s, u, h1, h2 => by
   cases h1
   cases h2
   exact h
 | i + 1, s, u, h1, h2 => slz_start d i s u h1 h2
theorem one_start {S : Sc} {K : PySem.W.Frag} {ι : Io} {H : Hp} {v : V} {sl : Sl} (h : SlD K S ι H (some (some v)) sl) : ∀ (i : Nat) (s : Sl) (u : V), [sl][i]? = some s → [v][i]? = some u → SlD K S ι H (some (some u)) s
 | 0, s, u, h1, h2 => by
   cases h1
   cases h2
   exact h
 | i + 1, s, u, h1, h2 => by cases h1
theorem run_hot {k : Nat} {fA : Addr} {name qual : Str} {params : Arguments} {body : List Stmt} {scope : Scope} {dV kV doc pm cdv ct oc : Value} {an od : Option Addr} {osl : Array (Option Value)} {N ps : List Str} (there : W.K.lookup fA = some ⟨oc, od, .func (PySem.W.fnOf name qual params body scope dV kV doc pm an cdv ct), osl⟩) (code : PySem.W.codeIn W.K cdv qual = true) (Sf : FnScope N ps scope)
   {A : Around} {outer : List PySem.Env} {s : Shared} {H : Hp} {args : Args} {us : List Value} {vs : List V} {Q : VK} {E : XK} {p : Addr × Obj} (pin : L2H.PinOk outer H s p) (hr : L2H.RoomH (k + 1) A) (e0 : Env0 W.P W.w W.K W.mg W.base A outer s H) (hb : BindsTo s (PySem.W.fnOf name qual params body scope dV kV doc pm an cdv ct) args (ps.zip us)) (r : Vals vs us) (hl : vs.length = ps.length)
   (hbody : L2H.RoomH k (A.deeper (envOfC qual scope s.heap.objs.size fA cdv)) → ∃ t, PSs (L2H.cxH (L2N.CX W.P W.w) W.P W.w W.K W.mg W.base N qual scope fA cdv A outer s H E p) body t ∧ t { nx := fun _ H' => Q .non H', rt := Q } (L2.start N vs) H) :
   codeAny (model W.P W.w) A (.call (.ref fA) args) (CR (L2N.CX W.P W.w) outer W.P W.w H s Q E) s := by
 have inK : W.K.In s.heap := e0.mod.kin.keeps fun c u q => (e0.bs c u q).1
 have noLim : s.heap.NoLimit := e0.mod.nolimit.keeps fun c u q => (e0.bs c u q).1
 have own : ∀ y ∈ ps.zip us, scope.names.lookup y.1 = some .local ∨ (scope.names.lookup y.1 = some .cell ∧ ((cellsFrom (s.heap.objs.size + 1) scope.names []).lookup y.1).isSome = true) := fun y hy => (Sf.par y.1 (List.of_mem_zip (a := y.1) (b := y.2) hy).1).imp id fun z => ⟨z, PySem.W.cellsFrom_some _ _ _ (.inl z)⟩
 refine codeAny_call_function hr.depth (inK _ _ there) rfl Sf.co Sf.gen rfl (PySem.W.codeRec_of inK code) (hb _ _ _ _ (wpAny_newFunctionEnv_cells Sf.kind own fun env he s1 x => ?_))
 subst he
 refine ⟨noLim.keeps x.toInCall.keep, codeAny_func ?_⟩
 obtain ⟨t, ht, hq⟩ := hbody (hr.deeper _)
 have start := L2H.inv_startH (CX := L2N.CX W.P W.w) (E := E) (f := fA) (cd := cdv) Sf pin e0 hl r x
 refine wpAny_mono (ht.run [] s1 (L2.start N vs) H _ start hq) (fun fl s' hs => ?_) fun _ _ z => z
 cases fl with
 | ret u => exact hs.elim fun v z => z.elim fun σ' z => z.elim fun H' z => ⟨v, H', z.1.os, z.1.bare, z.1.base, z.1.hok, z.2.1, z.2.2⟩
 | next => exact hs.elim fun σ' z => z.elim fun H' z => ⟨.non, H', z.1.os, z.1.bare, z.1.base, z.1.hok, rfl, z.2⟩
 | brk => exact hs.elim fun _ z => z.elim fun _ z => z.2.elim
 | cont => exact hs.elim fun _ z => z.elim fun _ z => z.2.elim
theorem calls_succ {k : Nat} (ok : WOk W G) (defs : ∀ (i : Nat) (x : Str), G.nm[i]? = some x → DefOk W G i) (ih : ∀ j, j ≤ k → Calls W G j) : Calls W G (k + 1) := by
 refine ⟨fun i x hx => ?_, fun i x hx => ?_, fun i x hx => ?_, fun i x hx => ?_, fun i x hx => ?_, fun i x hx => ?_⟩ <;> obtain ⟨gm, gk, gb⟩ := ok.glob i x hx <;> obtain ⟨d, N, scope, body, name, qual, params, dV, kV, doc, pm, cdv, ct, oc, an, od, osl, lam, hd, lk, hf, hcd, Sf, hns, hnp, hchk, hlam⟩ := (defs i x hx).is
 · rw [hf]
   refine fn_of lk hcd Sf (fun vs H Q E h => h.1) fun A outer s H vs Q E hr hsp => ?_
   obtain ⟨hlen, ι, M, zs, m, dz, e⟩ := hsp
   exact ⟨_, sSs d.body (gx_calm ok ih Sf hlam hr (fun _ _ _ z => z) xl_none) hchk, ι, _, M, ⟨sr_start hns (by simp [dz.length]) (slz_start dz), m⟩, endS_fin (fn_step hd e)⟩
 · rw [hf]
   refine L2H.fn_ofH lk hcd Sf (fun vs H Q E h => h.1) fun A outer s H vs Q E p hot hr hsp => ?_
   obtain ⟨hlen, ι, M, zs, m, dz, e⟩ := hsp
   exact ⟨_, sSs d.body (gx_hot ok ih Sf hlam hot hr (S := Sc.none) fun _ _ _ z => z.elim) hchk, ι, _, M, ⟨sr_start hns (by simp [dz.length]) (slz_start dz), m⟩, endS_fin (fn_step hd e)⟩
 · rw [hf]
   refine fn_of lk hcd Sf (fun vs H Q E h => h.1) fun A outer s H vs Q E hr hsp => ?_
   obtain ⟨hlen, ι, M, v, vs', ns, zs, rfl, m, hs, dz, e⟩ := hsp
   exact ⟨_, sSs d.body (gx_calm ok ih Sf hlam hr (fun _ _ _ z => z) xl_none) hchk, ι, _, M, ⟨sr_start hns (by simp [dz.length]) (scr_start hs dz), m⟩, endS_fin (fn_stepW hd e)⟩
 · rw [hf]
   refine L2H.fn_ofH lk hcd Sf (fun vs H Q E h => h.1) fun A outer s H vs Q E p hot hr hsp => ?_
   obtain ⟨hlen, ι, M, v, vs', ns, zs, rfl, m, hs, dz, e⟩ := hsp
   exact ⟨_, sSs d.body (gx_hot ok ih Sf hlam hot hr (S := Sc.none) fun _ _ _ z => z.elim) hchk, ι, _, M, ⟨sr_start hns (by simp [dz.length]) (scr_start hs dz), m⟩, endS_fin (fn_stepW hd e)⟩
 · intro Sl A outer s H f0 ps b σc cap ι M us vs zs Q E dz rv hxa hr e0 hxl hcl hcap hlen m e
   obtain ⟨h1, e⟩ := fn_stepL hd e
   have hul : us.length = zs.length := by rw [← rv.length, dz.length]
   have b1 := gb s (us ++ [.ref f0]) (e0.mod.kin.keeps fun c u q => (e0.bs c u q).1) (by rw [List.append_nil, ← hnp, List.length_append, hul] <;> exact h1)
   rw [List.append_nil, hf] at b1
   refine LamX.run_ofS (N := N) (vs := vs ++ [.ref f0]) (us := us ++ [.ref f0]) lk hcd Sf hr e0 b1 (vals_snoc rv) (by rw [← hnp, List.length_append, dz.length] <;> exact h1) fun hr' => ?_
   exact ⟨_, sSs d.body (gx_calm ok ih Sf hlam hr' hxa (hxl k rfl)) hchk, ι, _, M, ⟨sr_start hns (by simp [dz.length]) (clo_start (sl := .clo ps b cap) dz ⟨f0, σc, rfl, hlen, hcl, hcap⟩), m⟩, endS_fin e⟩
 · intro A outer s H a c dx fs oe ι M Q E ea pin hr e0 m xf e
   obtain ⟨h1, e⟩ := fn_stepX hd e
   have b1 := gb s [.ref a] (e0.mod.kin.keeps fun c u q => (e0.bs c u q).1) (by rw [List.append_nil, ← hnp, h1] <;> rfl)
   rw [List.append_nil, hf] at b1
   refine run_hot (N := N) (vs := [.ref a]) (us := [.ref a]) lk hcd Sf pin hr e0 b1 (.cons rfl .nil) (by rw [← hnp, h1] <;> rfl) fun hr' => ?_
   exact ⟨_, sSs d.body (gx_hot ok ih Sf hlam ea.hot hr' (S := ⟨fun _ _ _ _ _ _ => False, fun h _ => h.elim, fun h _ => h.elim, fun a' c' dx' => a' = a ∧ c' = c ∧ dx' = dx⟩) fun a' c' dx' z => ⟨oe, by rw [z.1], by rw [z.1, z.2.1, z.2.2]; exact ea⟩) hchk, ι, _, M, ⟨sr_start hns rfl (one_start (sl := .exc ⟨c, fs⟩) ⟨a, dx, rfl, ⟨rfl, rfl, rfl⟩, xf⟩), m⟩, endS_fin e⟩
theorem calls_all (ok : WOk W G) (defs : ∀ (i : Nat) (x : Str), G.nm[i]? = some x → DefOk W G i) : ∀ k, ∀ j, j ≤ k → Calls W G j
 | 0, j, hj => by
   obtain rfl : j = 0 := by omega
   exact calls_zero
 | k + 1, j, hj => by
   by_cases h : j ≤ k
   · exact calls_all ok defs k j h
   · obtain rfl : j = k + 1 := by omega
     exact calls_succ ok defs (calls_all ok defs k)
end
end Zt
namespace Zt
open PySem PySem.Spec PyProof.Rows L2
def oexB (K : PySem.W.Frag) (C : Addr) : Bool := (match K.lookup C with
 | some ⟨.type "type", _, .cls cd, sl⟩ => (match cd.mro, sl.toList with
   | .ref D :: bm, [_, _, _, _, some (.builtin n), _] => D == C && n == "ValueError.__new__" && !cd.hasDel && cd.hasDict && PySem.HandSPX.refsVE bm
   | _, _ => false)
 | _ => false) && He.eqO (PySem.W.findIn K (.ref C) "__setattr__") (some (some (.builtin "object.__setattr__"))) && decide (PySem.W.subIn K (.ref C) (.type "BaseException") = some true) && decide (PySem.W.typeIn K (.ref C) = some (.type "type")) && PySem.W.keepIn K (.ref C)
theorem oexB_ok {K : PySem.W.Frag} {C : Addr} (h : oexB K C = true) : OexC K C := by
 unfold oexB at h
 simp only [Bool.and_eq_true, decide_eq_true_eq] at h
 obtain ⟨⟨⟨⟨h1, h2⟩, h3⟩, h4⟩, h5⟩ := h
 refine ⟨?_, He.eqO_ok h2, h3, h4, h5⟩
 split at h1
 · rename_i od cd sl lk
   split at h1
   · rename_i D bm s0 s1 s2 s3 n s5 e1 e2
     simp only [Bool.and_eq_true, beq_iff_eq, Bool.not_eq_true'] at h1
     obtain ⟨⟨⟨⟨a1, a2⟩, a3⟩, a4⟩, a5⟩ := h1
     subst a1 a2
     obtain ⟨nm, bs, mro, ns, qn, hd, sn, sub, ab, col, del⟩ := cd
     dsimp only at e1 a3 a4
     subst e1 a3 a4
     obtain ⟨l⟩ := sl
     have e2 : l = _ := e2
     subst e2
     exact ⟨nm, qn, ns, bs, bm, sn, sub, ab, col, od, s0, s1, s2, s3, s5, lk, a5⟩
   · cases h1
 · cases h1
theorem pe_oinit {X : Cx} {y : Str} {B : Addr} {e : Expr} {es : List Expr} {ta : TA} {p1 p2 pos : Pos} {pl : Sem Bool} (hg : Gl X y) (hm : X.mg y = some (.ref B)) (hdb : (y == ("__debug__" : Str)) = false)
   (hs : PySem.W.specialIn X.K (.ref B) "__getattribute__" = some (some (.builtin "type.__getattribute__"))) (hr : PySem.W.readsIn X.K B (.type "type") = true) (hv : PySem.W.findCls X.K (.ref B) (.type "type") "__init__" = some (.val (.builtin "ValueError.__init__"))) (ha : PA X (e :: es) ta)
   (hc : eval (.Call (.Attribute (.Name y p1) "__init__" p2) (e :: es) [] pos) X.env = (do
     let ov ← eval (.Name y p1) X.env
     standAt p2.atName
     let (f, first) ← holding [ov] (getMethod ov "__init__" pl)
     callWith pos f first (backTo pos (starEach (e :: es) X.env)) (backToKw pos (keywordEach [] X.env))))
   (he : starEach (e :: es) X.env = (false, eval e X.env) :: starEach es X.env) (hpl : (backTo pos (starEach es X.env)).any (·.1) = false) :
   PE X (.Call (.Attribute (.Name y p1) "__init__" p2) (e :: es) [] pos) (tVeI X.K ta) := by
 refine ⟨fun pins s σ H Q I h => ?_⟩
 refine PySem.W.methodCall_KW (ld_glob I hg hm ?_ hdb) hc
 obtain ⟨m, fr⟩ := I.fr
 refine PySem.W.method_cls I.kIn hs (PySem.W.cls_value I.kIn hr hv (by decide +kernel) ?_)
 show wpAny _ _ (callWith pos (Value.builtin "ValueError.__init__") [] (backTo pos (starEach (e :: es) X.env)) []) _ _ _
 have run := ha.run pos pins { s with toks := s.toks + 1 } σ H _ (I.tok _) h
 refine PyProof.Rows.callWith_method1 (thn run fun us s1 hh => ?_) he hpl
 obtain ⟨vs, H1, I1, r1, a, C, ws, ev, hl, T, ea, q⟩ := hh
 subst ev
 cases r1 with
 | cons ru rr =>
   cases ru
   exact oinit_ok T I1 ea (by rw [← Paired.length rr, sizeLine_eq]; omega) fun s' J => ⟨.non, H1, J, rfl, q⟩
end Zt
namespace Zt
open PySem PySem.Spec PyProof.Rows L2
def oB (a b : Option Bool) : Bool := decide (a = b)
def excB (K : PySem.W.Frag) (D : Addr) : Bool :=
 He.eqO (PySem.W.findIn K (.ref D) "__getattribute__") (some (some (.builtin "BaseException.__getattribute__"))) && He.eqO (PySem.W.findIn K (.ref D) "__getattr__") (some none) && oB (PySem.W.subIn K (.ref D) (.type "BaseException")) (some true) && PySem.W.hasDictIn K D &&
 He.eqO (PySem.W.findIn K (.ref D) "__class__") (some (some (.builtin "object.__class__"))) && He.eqO (PySem.W.specialIn K (.builtin "object.__class__") "__get__") (some (some (.builtin "getset_descriptor.__get__"))) && oB (PySem.W.takesIn K (.builtin "object.__class__")) (some true) && oB (PySem.W.mroIn K D (.type "object")) (some true)
theorem excB_ok {K : PySem.W.Frag} {D : Addr} (h : excB K D = true) : ExcC K D := by
 unfold excB at h
 simp only [Bool.and_eq_true] at h
 obtain ⟨⟨⟨⟨⟨⟨⟨h1, h2⟩, h3⟩, h4⟩, h5⟩, h6⟩, h7⟩, h8⟩ := h
 exact ⟨He.eqO_ok h1, He.eqO_ok h2, of_decide_eq_true h3, h4, He.eqO_ok h5, He.eqO_ok h6, of_decide_eq_true h7, of_decide_eq_true h8⟩
def clsB (sub : Nat → Nat → Bool) (cls : List Str) (K : PySem.W.Frag) : Bool :=
 cls.all (fun x => excB K (He.ga K x)) && (List.range cls.length).all fun c => (List.range cls.length).all (fun d => oB (PySem.W.exmOne K (.ref (He.ga K (cls.getD c ""))) (.ref (He.ga K (cls.getD d "")))) (some (sub c d)) && oB (PySem.W.kitOne K (.ref (He.ga K (cls.getD c ""))) (.ref (He.ga K (cls.getD d "")))) (some (sub c d))) &&
   oB (PySem.W.kitOne K (.ref (He.ga K (cls.getD c ""))) (.type "ValueError")) (some (sub c 1000))
def cix (cls : List Str) (c : Nat) : Nat := if c < cls.length then c else 0
theorem clsB_ok {sub : Nat → Nat → Bool} {cls : List Str} {K : PySem.W.Frag} (hn : 0 < cls.length) (h : clsB sub cls K = true) : ∀ c, ExcC K (He.ga K (cls.getD (cix cls c) "")) ∧ PySem.W.kitOne K (.ref (He.ga K (cls.getD (cix cls c) ""))) (.type "ValueError") = some (sub (cix cls c) 1000) ∧
   ∀ d, d < cls.length → PySem.W.exmOne K (.ref (He.ga K (cls.getD (cix cls c) ""))) (.ref (He.ga K (cls.getD d ""))) = some (sub (cix cls c) d) ∧ PySem.W.kitOne K (.ref (He.ga K (cls.getD (cix cls c) ""))) (.ref (He.ga K (cls.getD d ""))) = some (sub (cix cls c) d) := fun c => by
 have hc : cix cls c < cls.length := by
   unfold cix
   split
   · assumption
   · exact hn
 unfold clsB at h
 rw [Bool.and_eq_true] at h
 have h2 := List.all_eq_true.mp h.2 _ (List.mem_range.mpr hc)
 rw [Bool.and_eq_true] at h2
 refine ⟨excB_ok ?_, of_decide_eq_true h2.2, fun d hd => ?_⟩
 · refine List.all_eq_true.mp h.1 (cls.getD (cix cls c) "") ?_
   rw [List.getD_eq_getElem?_getD, List.getElem?_eq_getElem hc]
   exact List.getElem_mem hc
 · have h3 := List.all_eq_true.mp h2.1 d (List.mem_range.mpr hd)
   rw [Bool.and_eq_true] at h3
   exact ⟨of_decide_eq_true h3.1, of_decide_eq_true h3.2⟩
end Zt
namespace Zt
open PySem PySem.Spec PyProof.Rows L2
def fnScB (N ps : List Str) (sc : Scope) : Bool :=
 decide (sc.kind = .function) && !sc.isCoroutine && !sc.isGenerator && decide N.Nodup && decide (N.take ps.length = ps) && ps.all (fun x => decide (sc.names.lookup x = some .local) || decide (sc.names.lookup x = some .cell)) && sc.names.all fun y => !decide (y.2 = .free)
theorem fnScB_ok {N ps : List Str} {sc : Scope} (h : fnScB N ps sc = true) : FnScope N ps sc := by
 unfold fnScB at h
 simp only [Bool.and_eq_true, Bool.or_eq_true, Bool.not_eq_true', decide_eq_true_eq, decide_eq_false_iff_not, List.all_eq_true] at h
 obtain ⟨⟨⟨⟨⟨⟨h1, h2⟩, h3⟩, h4⟩, h5⟩, h6⟩, h7⟩ := h
 exact ⟨h1, h2, h3, h4, h5, h6, h7⟩
def fdAt (K : PySem.W.Frag) (a : Addr) : Option FuncData := match K.lookup a with
 | some ⟨_, _, .func fd, _⟩ => some fd
 | _ => none
theorem fdAt_of {K : PySem.W.Frag} {x qual : Str} {params : Arguments} {body : List Stmt} {scope : Scope} {f : Addr} {fd : FuncData} (F : FunD K x qual params body scope [] [] f fd) : fdAt K f = some fd := by
 obtain ⟨oc, od, dV, kV, doc, pm, an, cdv, ct, osl, e, lk, _⟩ := F.ex
 unfold fdAt
 rw [lk]
theorem defOk_of {W : Wd} {G : Stat} {i : Nat} {x qual : Str} {params : Arguments} {body : List Stmt} {scope : Scope} {fd : FuncData} {d : Def} {N : List Str} {lam : Bool} (F : FunD W.K x qual params body scope [] [] (W.fa i) fd) (hfd : W.fd i = fd) (hfa : W.fa i = He.fAd W.K (x, none)) (hd : W.T[i]? = some d)
   (Sf : FnScope N (W.ps i) scope) (hns : d.ns = N.length) (hnp : d.np = (W.ps i).length) (hchk : chkSs G ⟨N, scope, true, true, lam, fun _ => true⟩ d.body body = true) (hlam : lam = true → ∃ P, (P, (qual ++ ".<locals>.") ++ ("<lambda>" : Str)) ∈ W.tb ∧ LamX.TabB W.base W.mg (He.codeOf W.K (x, none)) P) : DefOk W G i := by
 obtain ⟨oc, od, dV, kV, doc, pm, an, cdv, ct, osl, e, lk, hcd, _⟩ := F.ex
 subst e
 refine ⟨d, N, scope, body, x, qual, params, dV, kV, doc, pm, cdv, ct, oc, an, od, osl, lam, hd, lk, hfd, hcd, Sf, hns, hnp, hchk, fun hl => ?_⟩
 obtain ⟨P, h1, h2⟩ := hlam hl
 obtain ⟨c, hc⟩ := He.codeIn_ref hcd
 have : He.codeOf W.K (x, none) = c := He.codeOf_eq (by rw [← hfa]; exact lk) hc
 rw [this] at h2
 exact ⟨c, P, hc, h1, h2⟩
end Zt
namespace Zt
open PySem PySem.Spec PyProof.Rows L2
def iniB (b f x : Str) (scope : Scope) : List Stmt → Bool
 | [.Expr (.Call (.Attribute (.Name b' _) n p2) [.Name s1 _, .Constant (.str _) _ _] [] p5) _, .Assign [.Attribute (.Name s2 _) f' _] (.Name x' _) _] =>
   decide (b' = b) && decide (n = "__init__") && (p2.endLine == p5.line) && decide (s1 = "self") && decide (s2 = "self") && decide (f' = f) && decide (x' = x) && decide (scope.names.lookup b = some .globalImplicit) && !(b == ("__debug__" : Str)) && !(b == ("__classdict__" : Str)) && !(b == ("__name__" : Str)) && decide (scope.names.lookup ("self" : Str) = some .local) && decide (scope.names.lookup x = some .local) && plainName x && decide (x ≠ "self")
 | _ => false
def BaseOk (K : PySem.W.Frag) (mg : Str → Option Value) (b : Str) : Prop := (b = "ValueError" ∧ mg b = none ∧ PySem.W.findCls K (.type "ValueError") (.type "type") "__init__" = some (.val (.builtin "ValueError.__init__"))) ∨
 ∃ B, mg b = some (.ref B) ∧ PySem.W.specialIn K (.ref B) "__getattribute__" = some (some (.builtin "type.__getattribute__")) ∧ PySem.W.readsIn K B (.type "type") = true ∧ PySem.W.findCls K (.ref B) (.type "type") "__init__" = some (.val (.builtin "ValueError.__init__"))
theorem init_ok {W : Wd} {C fI : Addr} {fd : FuncData} {b f x qual : Str} {params : Arguments} {body : List Stmt} {scope : Scope} (F : FunD W.K "__init__" qual params body scope [] [] fI fd) (Sf : FnScope ["self", x] ["self", x] scope) (T : OexC W.K C) (no : PySem.W.findIn W.K (.ref C) f = some none) (hb : BaseOk W.K W.mg b) (ok : iniB b f x scope body = true) :
   FnOk W.P W.w W.K W.mg W.base (L2N.CX W.P W.w) 1 fI fd ["self", x] (spInit C f) := by
 obtain ⟨oc, od, dV, kV, doc, pm, an, cdv, ct, osl, e, lk, hcd, _⟩ := F.ex
 subst e
 refine fn_of lk hcd Sf (fun vs H Q E h => ?_) fun A outer s H vs Q E hr hsp => ?_
 · obtain ⟨a, v, rfl, _⟩ := h
   rfl
 · unfold iniB at ok
   split at ok
   · rename_i b' p1 n p2 s1 p3 m j p4 p5 p6 s2 p7 f' p8 x' p9 p10
     simp only [Bool.and_eq_true, decide_eq_true_eq, Bool.not_eq_true'] at ok
     obtain ⟨⟨⟨⟨⟨⟨⟨⟨⟨⟨⟨⟨⟨⟨rfl, rfl⟩, hl⟩, rfl⟩, rfl⟩, rfl⟩, rfl⟩, g1⟩, g2⟩, g3⟩, g4⟩, g5⟩, g6⟩, g7⟩, g8⟩ := ok
     obtain ⟨x1, x2, _⟩ := plain_dbg g7
     let X := cxOf (L2N.CX W.P W.w) W.P W.w W.K W.mg W.base ["self", x'] qual scope fI cdv A outer s H E
     have ps : ∀ p, PE X (.Name "self" p) (tVar 0) := fun p => pe_var (i := 0) rfl (.inl g5) (by decide +kernel) (by decide +kernel)
     have px : ∀ p, PE X (.Name x' p) (tVar 1) := fun p => pe_var (i := 1) rfl (.inl g6) x1 x2
     have args : PA X [.Name "self" p3, .Constant (.str m) j p4] (tCons (tVar 0) (tCons (tC (.str m)) tNil)) := pa_cons (ps p3) (pa_cons pe_str pa_nil)
     have gl : Gl X b' := g1
     have key : PE X (.Call (.Attribute (.Name b' p1) "__init__" p2) [.Name "self" p3, .Constant (.str m) j p4] [] p5) (tVeI X.K (tCons (tVar 0) (tCons (tC (.str m)) tNil))) := by
       have hc := mcall_of (o := .Name b' p1) (m := "__init__") (apos := p2) (pos := p5) (args := [.Name "self" p3, .Constant (.str m) j p4]) (kws := []) (env := X.env) rfl fun ov => mcall_line rfl hl
       rcases hb with ⟨rfl, h2, h3⟩ | ⟨B, h1, h2, h3, h4⟩
       · exact pe_veinit gl h2 h3 args hc rfl rfl
       · exact pe_oinit gl h1 g2 h2 h3 h4 args hc rfl rfl
     refine ⟨_, pss_cons (ps_expr key) (pss_one (ps_ost (f := f') (ps p7) (px p9))), ?_⟩
     obtain ⟨a, v, rfl, ha, hq⟩ := hsp
     exact ⟨.ref a, rfl, a, C, [.str m], rfl, (show 1 ≤ 1000 by decide), T, ha, v, rfl, .ref a, rfl, a, C, rfl, T, no, .inl ⟨ha, fun dx n ne => hq dx n ne⟩⟩
   · cases ok
end Zt
namespace Zt
open PySem PySem.Spec PyProof.Rows L2
structure OwnD where
 f : Str
 x : Str
 b : Str
 st : Stmt
def isDefS : Stmt → Bool
 | .FunctionDef .. => true
 | _ => false
def initOf : Stmt → Stmt
 | .ClassDef _ _ _ body _ _ _ _ _ _ _ => (body.find? isDefS).getD (.Pass ⟨0, 0, 0, 0⟩)
 | s => s
def OwnD.dd (o : OwnD) (c : Str) : He.DefD := ⟨(c, some "__init__"), "__init__", c ++ ".__init__", defArgs (initOf o.st), defBody (initOf o.st), defScope (initOf o.st), [], []⟩
structure LawD where
 T : List Def
 nms : List Str
 pss : List (List Str)
 nss : List (List Str)
 bodies : List Stmt
 lams : List Bool
 cls : List Str
 pls : List Bool
 own : List (Option OwnD)
 cns : List Str
 gv : List D
 sub : Nat → Nat → Bool
 wf : Nat
def LawD.G (L : LawD) : Stat := ⟨L.nms, L.cns, L.cls, L.pls, L.own.map fun o => o.map OwnD.f⟩
def LawD.st (L : LawD) (i : Nat) : Stmt := L.bodies.getD i (.Pass ⟨0, 0, 0, 0⟩)
def LawD.dd (L : LawD) (i : Nat) : He.DefD := ⟨(L.nms.getD i "", none), L.nms.getD i "", L.nms.getD i "", defArgs (L.st i), defBody (L.st i), defScope (L.st i), [], []⟩
def LawD.fn (L : LawD) : List He.DefD := (List.range L.nms.length).map L.dd ++ (L.cls.zip L.own).filterMap fun p => p.2.map fun o => o.dd p.1
def OwnD.okB (o : OwnD) : Bool := fnScB ["self", o.x] ["self", o.x] (defScope (initOf o.st)) && iniB o.b o.f o.x (defScope (initOf o.st)) (defBody (initOf o.st))
def LawD.okB (L : LawD) : Bool := (L.own.all fun o => match o with
 | some o => o.okB
 | none => true) && decide (L.own.length = L.cls.length) && (List.range L.nms.length).all fun i => match L.T[i]? with
 | some d => decide (d.ns = (L.nss.getD i []).length) && decide (d.np = (L.pss.getD i []).length) && fnScB (L.nss.getD i []) (L.pss.getD i []) (defScope (L.st i)) && chkSs L.G ⟨L.nss.getD i [], defScope (L.st i), true, true, L.lams.getD i false, fun _ => true⟩ d.body (defBody (L.st i))
 | none => false
def dvOf : D → Option He.Dv
 | .none => some .non
 | .bool b => some (.bl b)
 | .int i => some (.int i)
 | .str s => some (.str s)
 | _ => none
def dvsOf : List D → Option (List He.Dv)
 | [] => some []
 | d :: r => (dvOf d).bind fun x => (dvsOf r).map (x :: ·)
def bareB (K : PySem.W.Frag) (a : Addr) : Bool := match K.lookup a with
 | some o => decide (o.cls = .type "tuple") && o.dict.isNone
 | none => false
def conOk (K : PySem.W.Frag) (x : Str) : D → Bool
 | .int i => (He.Fa.int x i).ok K
 | .str s => (He.Fa.str x s).ok K
 | .tuple ds => ds.all isStrD && bareB K (He.ga K x) && (He.Fa.glo x).ok K && (match dvsOf ds with
   | some vs => He.tupB K x vs
   | none => false)
 | _ => false
def isVI : Option PySem.W.CFound → Bool
 | some (.val (.builtin n)) => n == "ValueError.__init__"
 | _ => false
theorem isVI_ok {r : Option PySem.W.CFound} (h : isVI r = true) : r = some (.val (.builtin "ValueError.__init__")) := by
 unfold isVI at h
 split at h
 · rw [beq_iff_eq] at h
   rw [h]
 · cases h
def baseB (K : PySem.W.Frag) (b : Str) : Bool := if b = "ValueError" then isVI (PySem.W.findCls K (.type "ValueError") (.type "type") "__init__")
 else (He.Fa.glo b).ok K && He.eqO (PySem.W.specialIn K (.ref (He.ga K b)) "__getattribute__") (some (some (.builtin "type.__getattribute__"))) && PySem.W.readsIn K (He.ga K b) (.type "type") && isVI (PySem.W.findCls K (.ref (He.ga K b)) (.type "type") "__init__")
def OwnD.ex (o : OwnD) (K : PySem.W.Frag) (c : Str) : Bool := oexB K (He.ga K c) && He.eqO (PySem.W.findIn K (.ref (He.ga K c)) "__init__") (some (some (.ref (He.fAd K (c, some "__init__"))))) && decide (PySem.W.typeIn K (.ref (He.fAd K (c, some "__init__"))) = some (.type "function")) && baseB K o.b
def nofB (cls : List Str) (fs : List Str) (K : PySem.W.Frag) : Bool := fs.all fun f => cls.all fun c => He.eqO (PySem.W.findIn K (.ref (He.ga K c)) f) (some none)
def LawD.fa (L : LawD) : List He.Fa := L.nms.map .glo ++ (L.cls.map .glo ++ blts.map .free)
def LawD.ex (L : LawD) (K : PySem.W.Frag) : Bool := ((L.cls.zip L.own).all fun p => match p.2 with
 | some o => o.ex K p.1
 | none => true) && nofB L.cls (L.own.filterMap fun o => o.map OwnD.f) K && (clsB L.sub L.cls K && (L.cls.all fun x => He.eqO (PySem.W.findIn K (.ref (He.ga K x)) "__str__") (some (some (.builtin "BaseException.__str__"))) && PySem.W.keepIn K (.ref (He.ga K x)) && oB (PySem.W.subIn K (.ref (He.ga K x)) (.type "BaseException")) (some true) && decide (PySem.W.typeIn K (.ref (He.ga K x)) = some (.type "type"))) && ((L.cls.zip L.pls).all fun p => !p.2 || PySem.W.excIn K (He.ga K p.1) He.veBase "ValueError.__new__") && decide (L.pls.length = L.cls.length) && decide (L.cns.length = L.gv.length) && (L.cns.zip L.gv).all fun p => conOk K p.1 p.2)
def LawD.W (L : LawD) (P : Program) (w : World) (K : PySem.W.Frag) (mg : Str → Option Value) (base : Heap) (tb : List (Addr × Str)) : Wd where
 P := P
 w := w
 K := K
 mg := mg
 base := base
 T := L.T
 nm := fun i => L.nms.getD i ""
 fa := fun i => He.ga K (L.nms.getD i "")
 fd := fun i => (fdAt K (He.ga K (L.nms.getD i ""))).getD (PySem.W.fnOf "" "" (defArgs (.Pass ⟨0, 0, 0, 0⟩)) [] (defScope (.Pass ⟨0, 0, 0, 0⟩)) .none .none .none .none none .none .none)
 ps := fun i => L.pss.getD i []
 cn := fun c => L.cls.getD c ""
 cv := fun c => .ref (He.ga K (L.cls.getD (cix L.cls c) ""))
 sub := fun c d => L.sub (cix L.cls c) d
 wf := L.wf
 gn := fun i => L.cns.getD i ""
 gv := L.gv
 tb := tb
end Zt
namespace Zt
open PySem PySem.Spec PyProof.Rows L2
theorem getD_of {α : Type} {l : List α} {i : Nat} {x d : α} (h : l[i]? = some x) : l.getD i d = x := by rw [List.getD_eq_getElem?_getD, h]; rfl
theorem dv_den {K : PySem.W.Frag} {ι : Io} {H : Hp} {d : D} {v : He.Dv} (h : dvOf d = some v) : Den K ι H (v.v K) d := by
 cases d with
 | none => cases h; exact .non
 | bool b => cases h; exact .bl b
 | int i => cases h; exact .int i
 | str s => cases h; exact .str s
 | _ => cases h
theorem dvs_den {K : PySem.W.Frag} {ι : Io} {H : Hp} : ∀ {ds : List D} {vs : List He.Dv}, dvsOf ds = some vs → DenL K ι H (vs.map (He.Dv.v K)) ds
 | [], vs, h => by
   cases h
   exact .nil
 | d :: ds, vs, h => by
   obtain ⟨x, h1, h2⟩ := Option.bind_eq_some_iff.mp h
   obtain ⟨r, h3, h4⟩ := Option.map_eq_some_iff.mp h2
   subst h4
   exact .cons (dv_den h1) (dvs_den h3)
theorem con_ok {K : PySem.W.Frag} {h : Heap} {mg : Str → Option Value} (X : K.In h) (Gl : h.Ns mainGlobals mg) {x : Str} {d : D} (c : conOk K x d = true) : ∃ u v, mg x = some u ∧ RelV v u ∧ (∀ ι H, Den K ι H v d) ∧ ∀ ds, d = .tuple ds → ∃ p o, v = .ref p ∧ K.lookup p = some o ∧ o.cls = .type "tuple" ∧ o.dict = none := by
 cases d with
 | int i =>
   obtain ⟨t, e⟩ := He.int_ok X Gl (x := x) (i := i) c
   exact ⟨_, .int i, e, ⟨t, rfl⟩, fun _ _ => .int i, fun _ z => nomatch z⟩
 | str s =>
   obtain ⟨t, e⟩ := He.str_ok X Gl (x := x) (z := s) c
   exact ⟨_, .str s, e, ⟨t, rfl⟩, fun _ _ => .str s, fun _ z => nomatch z⟩
 | tuple ds =>
   have c : (ds.all isStrD && bareB K (He.ga K x) && (He.Fa.glo x).ok K && (match dvsOf ds with
     | some vs => He.tupB K x vs
     | none => false)) = true := c
   rw [Bool.and_eq_true, Bool.and_eq_true, Bool.and_eq_true] at c
   cases q : dvsOf ds with
   | none => rw [q] at c; cases c.2
   | some vs =>
     rw [q] at c
     refine ⟨_, .ref (He.ga K x), He.glo_ok X Gl c.1.2, rfl, fun ι H => .tup (.inr ⟨?_, c.1.1.1⟩) (dvs_den q), fun ds' _ => ?_⟩
     · have := He.tupB_ok c.2 (fun _ => none)
       rcases this with z | z
       · rcases z with z | ⟨_, z⟩ <;> cases z
       · exact z
     · have b := c.1.1.2
       unfold bareB at b
       split at b
       · rename_i o ho
         rw [Bool.and_eq_true] at b
         exact ⟨_, o, rfl, ho, of_decide_eq_true b.1, by simpa using b.2⟩
       · cases b
 | _ => cases c
end Zt
namespace Zt
open PySem PySem.Spec PyProof.Rows L2
theorem fact_of {L : LawD} {K : PySem.W.Frag} (c : He.SaysD L.fa L.fn K) {f : He.Fa} (h : f ∈ L.fa) : f.ok K = true := He.SaysD.facts c h
theorem get_mem {α : Type} {l : List α} {i : Nat} {x : α} (h : l[i]? = some x) : x ∈ l := List.mem_of_getElem? h
theorem fun_of {L : LawD} {K : PySem.W.Frag} (c : He.SaysD L.fa L.fn K) {i : Nat} {x : Str} (hx : L.nms[i]? = some x) : ∃ fd, FunD K x x (defArgs (L.st i)) (defBody (L.st i)) (defScope (L.st i)) [] [] (He.ga K x) fd := by
 have hi : i < L.nms.length := (List.getElem?_eq_some_iff.mp hx).1
 have := c.def_ i (d := L.dd i) (by
   unfold LawD.fn
   rw [List.getElem?_append_left (by simpa using hi), List.getElem?_map, List.getElem?_range hi]
   rfl)
 have e : L.nms.getD i "" = x := getD_of hx
 unfold LawD.dd at this
 rw [e] at this
 exact this
theorem iniBase_of {L : LawD} {K : PySem.W.Frag} {mg : Str → Option Value} {h : Heap} (X : K.In h) (Gl : h.Ns mainGlobals mg) (c : He.SaysD L.fa L.fn K) {b : Str} (hb : baseB K b = true) : BaseOk K mg b := by
 unfold baseB at hb
 by_cases e : b = "ValueError"
 · rw [if_pos e] at hb
   exact .inl ⟨e, by rw [e]; exact He.free_ok X Gl (fact_of c (f := .free "ValueError") (by simp only [LawD.fa, List.mem_append, List.mem_map]; exact .inr (.inr ⟨"ValueError", by decide +kernel, rfl⟩))), isVI_ok hb⟩
 · rw [if_neg e] at hb
   simp only [Bool.and_eq_true] at hb
   obtain ⟨⟨⟨h1, h2⟩, h3⟩, h4⟩ := hb
   exact .inr ⟨He.ga K b, He.glo_ok X Gl h1, He.eqO_ok h2, h3, isVI_ok h4⟩
theorem zip_ix {α β : Type} {l : List α} {m : List β} {i : Nat} {x : α} {y : β} (h1 : l[i]? = some x) (h2 : m[i]? = some y) : (x, y) ∈ l.zip m := get_mem (i := i) (zip_get h1 h2)
theorem wok_of {L : LawD} {P : Program} {w : World} {K : PySem.W.Frag} {mg : Str → Option Value} {base h : Heap} {tb : List (Addr × Str)} (X : K.In h) (Gl : h.Ns mainGlobals mg) (c : He.SaysD L.fa L.fn K) (ex : L.ex K = true) (hn : 0 < L.cls.length)
   (htb : ∀ p ∈ tb, ∀ q ∈ tb, p.1 = q.1 → p.2 = q.2) (ok : L.okB = true) (hbo : ∀ (c : Str) (o : OwnD), (c, some o) ∈ L.cls.zip L.own → ∀ (kV doc pm : Value) (an : Option Addr) (cdv ct : Value) (us : List Value), us.length = 2 → bindArgs (PySem.W.fnOf "__init__" (c ++ ".__init__") (defArgs (initOf o.st)) (defBody (initOf o.st)) (defScope (initOf o.st)) .none kV doc pm an cdv ct) ⟨us, []⟩ = pure ((["self", o.x] : List Str).zip us))
   (hnp : ∀ (i : Nat) (x : Str) (d : Def), L.nms[i]? = some x → L.T[i]? = some d → d.np = (L.pss.getD i []).length)
   (hb : ∀ (i : Nat) (x : Str), L.nms[i]? = some x → ∀ (kV doc pm : Value) (an : Option Addr) (cdv ct : Value) (us : List Value), us.length = (L.pss.getD i []).length → bindArgs (PySem.W.fnOf x x (defArgs (L.st i)) (defBody (L.st i)) (defScope (L.st i)) .none kV doc pm an cdv ct) ⟨us, []⟩ = pure ((L.pss.getD i []).zip us)) :
   WOk (L.W P w K mg base tb) L.G := by
 unfold LawD.ex at ex
 simp only [Bool.and_eq_true, decide_eq_true_eq] at ex
 obtain ⟨⟨w1, w2⟩, ⟨⟨⟨⟨e1, e2⟩, e3⟩, e4⟩, e5⟩, e6⟩ := ex
 unfold LawD.okB at ok
 simp only [Bool.and_eq_true, decide_eq_true_eq] at ok
 obtain ⟨⟨k1, k2⟩, _⟩ := ok
 have cl := clsB_ok hn e1
 have lt : ∀ {d : Nat} {y : Str}, L.cls[d]? = some y → d < L.cls.length := fun hy => (List.getElem?_eq_some_iff.mp hy).1
 have cd : ∀ {d : Nat}, d < L.cls.length → cix L.cls d = d := fun hd => if_pos hd
 refine { exm := fun a d y hy => ?_, kit := fun a d y hy => ?_, exc := fun a => ⟨_, rfl, (cl a).1⟩, kitV := fun a => (cl a).2.1, nof := fun f hf y hy a => ?_, own := fun a f hf => ?_, str := fun a C _ hC => ?_, tbu := htb, blt := fun x hx => ?_, glob := fun i x hx => ?_, np := hnp, cons := fun i x hx => ?_, cls := fun a x hx => ?_ }
 · have := ((cl a).2.2 d (lt hy)).1
   show PySem.W.exmOne K (.ref (He.ga K (L.cls.getD (cix L.cls a) ""))) (.ref (He.ga K (L.cls.getD (cix L.cls d) ""))) = _
   rw [cd (lt hy)]
   exact this
 · have := ((cl a).2.2 d (lt hy)).2
   show PySem.W.kitOne K (.ref (He.ga K (L.cls.getD (cix L.cls a) ""))) (.ref (He.ga K (L.cls.getD (cix L.cls d) ""))) = _
   rw [cd (lt hy)]
   exact this
 · subst hy
   have hf : some y ∈ L.own.map fun o => o.map OwnD.f := hf
   obtain ⟨o, ho, e⟩ := List.mem_map.mp hf
   have w3 := List.all_eq_true.mp w2 y (List.mem_filterMap.mpr ⟨o, ho, e⟩)
   refine ⟨He.ga K (L.cls.getD (cix L.cls a) ""), rfl, He.eqO_ok (List.all_eq_true.mp w3 _ ?_)⟩
   have ha : cix L.cls a < L.cls.length := by
     unfold cix
     split
     · assumption
     · exact hn
   rw [List.getD_eq_getElem?_getD, List.getElem?_eq_getElem ha]
   exact List.getElem_mem ha
 · have hf : (L.own.map fun o => o.map OwnD.f)[a]? = some (some f) := hf
   rw [List.getElem?_map] at hf
   cases ho : L.own[a]? with
   | none => rw [ho] at hf; cases hf
   | some oo =>
     cases oo with
     | none => rw [ho] at hf; cases hf
     | some o =>
       rw [ho] at hf
       obtain rfl : o.f = f := by simpa using hf
       have ha : a < L.cls.length := by rw [← k2]; exact (List.getElem?_eq_some_iff.mp ho).1
       have hc : L.cls[a]? = some L.cls[a] := List.getElem?_eq_getElem ha
       have hz := zip_ix hc ho
       have ex1 : o.ex K L.cls[a] = true := List.all_eq_true.mp w1 _ hz
       have ok1 : o.okB = true := List.all_eq_true.mp k1 _ (get_mem ho)
       unfold OwnD.ex at ex1
       simp only [Bool.and_eq_true, decide_eq_true_eq] at ex1
       obtain ⟨⟨⟨x1, x2⟩, x3⟩, x4⟩ := ex1
       unfold OwnD.okB at ok1
       rw [Bool.and_eq_true] at ok1
       have hd : o.dd L.cls[a] ∈ L.fn := by
         unfold LawD.fn
         exact List.mem_append_right _ (List.mem_filterMap.mpr ⟨_, hz, rfl⟩)
       obtain ⟨fd, F⟩ := He.SaysD.defs c hd
       have w3 := List.all_eq_true.mp w2 o.f (List.mem_filterMap.mpr ⟨some o, get_mem ho, rfl⟩)
       have no := He.eqO_ok (List.all_eq_true.mp w3 _ (get_mem hc))
       have e0 : L.cls.getD (cix L.cls a) "" = L.cls[a] := by rw [cd ha]; exact getD_of hc
       have F : FunD K "__init__" (L.cls[a] ++ ".__init__") (defArgs (initOf o.st)) (defBody (initOf o.st)) (defScope (initOf o.st)) [] [] (He.fAd K (L.cls[a], some "__init__")) fd := F
       refine ⟨He.ga K L.cls[a], He.fAd K (L.cls[a], some "__init__"), fd, ["self", o.x], ?_, oexB_ok x1, He.eqO_ok x2, x3, init_ok (W := L.W P w K mg base tb) F (fnScB_ok ok1.1) (oexB_ok x1) no (iniBase_of X Gl c x4) ok1.2, F.bindsN fun kV doc pm an cdv ct us hl => hbo _ o hz kV doc pm an cdv ct us hl⟩
       show Value.ref (He.ga K (L.cls.getD (cix L.cls a) "")) = _
       rw [e0]
 · have hC : Value.ref (He.ga K (L.cls.getD (cix L.cls a) "")) = .ref C := hC
   cases hC
   have ha : cix L.cls a < L.cls.length := by
     unfold cix
     split
     · assumption
     · exact hn
   have q := List.all_eq_true.mp e2 (L.cls.getD (cix L.cls a) "") (by rw [List.getD_eq_getElem?_getD, List.getElem?_eq_getElem ha]; exact List.getElem_mem ha)
   simp only [Bool.and_eq_true] at q
   exact He.eqO_ok q.1.1.1
 · exact He.free_ok X Gl (fact_of c (f := .free x) (by simp only [LawD.fa, List.mem_append, List.mem_map]; exact .inr (.inr ⟨x, hx, rfl⟩)))
 · have hx : L.nms[i]? = some x := hx
   obtain ⟨fd, F⟩ := fun_of c hx
   have e : L.nms.getD i "" = x := getD_of hx
   show mg x = some (.ref (He.ga K (L.nms.getD i ""))) ∧ PySem.W.keepIn K (.ref (He.ga K (L.nms.getD i ""))) = true ∧ L2.Binds K ((fdAt K (He.ga K (L.nms.getD i ""))).getD _) (L.pss.getD i []) []
   rw [e, fdAt_of F]
   exact ⟨He.glo_ok X Gl (fact_of c (f := .glo x) (by simp only [LawD.fa, List.mem_append, List.mem_map]; exact .inl ⟨x, get_mem hx, rfl⟩)), F.kp, F.bindsN fun kV doc pm an cdv ct us hl => hb i x hx kV doc pm an cdv ct us hl⟩
 · have hx : L.cns[i]? = some x := hx
   have hi : i < L.gv.length := by rw [← e5]; exact (List.getElem?_eq_some_iff.mp hx).1
   have hz : (x, L.gv[i]) ∈ L.cns.zip L.gv := get_mem (i := i) (zip_get hx (List.getElem?_eq_getElem hi))
   obtain ⟨u, v, h1, h2, h3, h4⟩ := con_ok X Gl (List.all_eq_true.mp e6 _ hz)
   exact ⟨u, v, L.gv[i], h1, h2, List.getElem?_eq_getElem hi, h3, h4⟩
 · have hx : L.cls[a]? = some x := hx
   have e : L.cls.getD (cix L.cls a) "" = x := by rw [cd (lt hx)]; exact getD_of hx
   have q := List.all_eq_true.mp e2 x (get_mem hx)
   simp only [Bool.and_eq_true, decide_eq_true_eq] at q
   refine ⟨He.ga K x, He.glo_ok X Gl (fact_of c (f := .glo x) (by simp only [LawD.fa, List.mem_append, List.mem_map]; exact .inr (.inl ⟨x, get_mem hx, rfl⟩))), ?_, q.1.1.2, fun hp => ?_, of_decide_eq_true q.1.2, q.2⟩
   · show Value.ref (He.ga K (L.cls.getD (cix L.cls a) "")) = _
     rw [e]
   · have hz : (x, true) ∈ L.cls.zip L.pls := get_mem (i := a) (zip_get hx hp)
     have := List.all_eq_true.mp e3 _ hz
     have this : PySem.W.excIn K (He.ga K x) He.veBase "ValueError.__new__" = true := by simpa using this
     exact this
end Zt
namespace Zt
open PySem PySem.Spec PyProof.Rows L2
theorem okB_at {L : LawD} (ok : L.okB = true) {i : Nat} (hi : i < L.nms.length) : ∃ d, L.T[i]? = some d ∧ d.ns = (L.nss.getD i []).length ∧ d.np = (L.pss.getD i []).length ∧ FnScope (L.nss.getD i []) (L.pss.getD i []) (defScope (L.st i)) ∧ chkSs L.G ⟨L.nss.getD i [], defScope (L.st i), true, true, L.lams.getD i false, fun _ => true⟩ d.body (defBody (L.st i)) = true := by
 unfold LawD.okB at ok
 rw [Bool.and_eq_true] at ok
 obtain ⟨_, ok⟩ := ok
 have h := List.all_eq_true.mp ok i (List.mem_range.mpr hi)
 cases q : L.T[i]? with
 | none => rw [q] at h; cases h
 | some d =>
   rw [q] at h
   simp only [Bool.and_eq_true, decide_eq_true_eq] at h
   obtain ⟨⟨⟨h1, h2⟩, h3⟩, h4⟩ := h
   exact ⟨d, rfl, h1, h2, fnScB_ok h3, h4⟩
theorem defs_of {L : LawD} {P : Program} {w : World} {K : PySem.W.Frag} {mg : Str → Option Value} {base : Heap} {tb : List (Addr × Str)} (ok : L.okB = true) (c : He.SaysD L.fa L.fn K)
   (ht : ∀ (i : Nat) (x : Str), L.nms[i]? = some x → L.lams.getD i false = true → ∃ Pt, (Pt, (x ++ ".<locals>.") ++ ("<lambda>" : Str)) ∈ tb ∧ LamX.TabB base mg (He.codeOf K (x, none)) Pt) : ∀ (i : Nat) (x : Str), L.G.nm[i]? = some x → DefOk (L.W P w K mg base tb) L.G i := by
 intro i x hx
 have hx : L.nms[i]? = some x := hx
 have hi : i < L.nms.length := (List.getElem?_eq_some_iff.mp hx).1
 obtain ⟨d, hd, h1, h2, h3, h4⟩ := okB_at ok hi
 obtain ⟨fd, F⟩ := fun_of c hx
 have e : L.nms.getD i "" = x := getD_of hx
 have ea : (L.W P w K mg base tb).fa i = He.ga K x := by
   show He.ga K (L.nms.getD i "") = _
   rw [e]
 refine defOk_of (W := L.W P w K mg base tb) (x := x) (qual := x) (fd := fd) (N := L.nss.getD i []) (lam := L.lams.getD i false) (by rw [ea]; exact F) ?_ ?_ hd h3 h1 h2 h4 (ht i x hx)
 · show (fdAt K (He.ga K (L.nms.getD i ""))).getD _ = fd
   rw [e, fdAt_of F]
   rfl
 · rw [ea]
   rfl
end Zt
namespace Zt
open PySem PySem.Spec PyProof.Rows L2
def LawD.Wt (L : LawD) (K : PySem.W.Frag) (tf : List He.Defn) : List (Addr × Str) := tf.map fun p => ((He.cT K p).2, (p.1 ++ ".<locals>.") ++ ("<lambda>" : Str))
theorem sp_law {W : Wd} {k iL : Nat} {ns : List Int} {a : Addr} {H : Hp} {M : Mem} (hps : (W.ps iL).length = 1) (hT : ∀ p ∈ W.tb, H p.1 = some (.tbl #[])) (hS : SqL W.K H a (ns.map V.int)) (hl : (W.cfg k false).fnW false iL (.scr ns) [] [] = .ok (.d (.bool true)) M) :
   spW W k false iL [.ref a] H (fun v _ => v = .bl true) fun _ _ _ => False := by
 have m : MRel W.K ⟨[], [], ⟨W.fa, W.w, W.cv⟩⟩ H [] := ⟨rfl, List.nodup_nil, (fun _ h => nomatch h), (fun n o a h => nomatch (show (none : Option MO) = some o by simpa using h))⟩
 refine ⟨by rw [hps]; rfl, ⟨[], [], ⟨W.fa, W.w, W.cv⟩⟩, [], .ref a, [], ns, [], rfl, ⟨m, rfl, fun p hp => LamX.TabS.nil (hT p hp), fun p _ z => ?_⟩, ⟨a, rfl, ?_⟩, .nil, ?_⟩
 · rcases z with z | z <;> cases z
 · rcases hS with z | z
   · refine .inl ⟨fun q => ?_, z⟩
     rcases q with q | q <;> cases q
   · exact .inr z
 · rw [hl]
   intro ι' v H' _ _ d
   cases d with
   | d d =>
     cases d
     rfl
theorem lawAt {L : LawD} {l : PySem.W.OpenLaw} {w : World} {K : PySem.W.Frag} {mg : Str → Option Value} {h : Heap} {k n iL : Nat} {x name : Str} {tf : List He.Defn} (Gl : h.Ns mainGlobals mg) (X : K.In h) (c : He.SaysX L.fa L.fn [] tf L.ex w h K) (ok : L.okB = true) (hn : 0 < L.cls.length)
   (hi : L.nms[iL]? = some name) (hps : L.pss.getD iL [] = [x]) (hbo : ∀ (c : Str) (o : OwnD), (c, some o) ∈ L.cls.zip L.own → ∀ (kV doc pm : Value) (an : Option Addr) (cdv ct : Value) (us : List Value), us.length = 2 → bindArgs (PySem.W.fnOf "__init__" (c ++ ".__init__") (defArgs (initOf o.st)) (defBody (initOf o.st)) (defScope (initOf o.st)) .none kV doc pm an cdv ct) ⟨us, []⟩ = pure ((["self", o.x] : List Str).zip us))
   (htb : ∀ p ∈ L.Wt K tf, ∀ q ∈ L.Wt K tf, p.1 = q.1 → p.2 = q.2) (hlam : ∀ (i : Nat) (y : Str), L.nms[i]? = some y → L.lams.getD i false = true → (y, none) ∈ tf)
   (hb : ∀ (i : Nat) (y : Str), L.nms[i]? = some y → ∀ (kV doc pm : Value) (an : Option Addr) (cdv ct : Value) (us : List Value), us.length = (L.pss.getD i []).length → bindArgs (PySem.W.fnOf y y (defArgs (L.st i)) (defBody (L.st i)) (defScope (L.st i)) .none kV doc pm an cdv ct) ⟨us, []⟩ = pure ((L.pss.getD i []).zip us))
   (law : ∀ ns : List Int, ns.length ≤ n → (∀ z ∈ ns, Builtin.Int.intBits z ≤ 1048576) → ∃ M, (lev L.T (fun c d => L.sub (cix L.cls c) d) L.gv L.wf k false).fnW false iL (.scr ns) [] [] = .ok (.d (.bool true)) M) :
   LamX.LawAtS l w K (L2N.CX l.prog w) k n x mg (He.ga K name) h := by
 have cS : He.SaysD L.fa L.fn K := congrArg (fun z : He.AlT => z.1) c.t
 obtain ⟨fd, F⟩ := fun_of cS hi
 have hnp : ∀ (i : Nat) (y : Str) (d : Def), L.nms[i]? = some y → L.T[i]? = some d → d.np = (L.pss.getD i []).length := fun i y d hy hd => by
   obtain ⟨d', h1, _, h2, _⟩ := okB_at ok (List.getElem?_eq_some_iff.mp hy).1
   rw [hd] at h1
   cases h1
   exact h2
 refine ⟨fd, tf.map (He.cT K), spW (L.W l.prog w K mg h (L.Wt K tf)) k false iL, fun p hp => ?_, fun p hp => ?_, fun p hp => ?_, fun s u => ?_, fun H a ns hl hz hT hS => ?_, fun base KX hg hTB => ?_⟩
 · obtain ⟨q, hq, rfl⟩ := List.mem_map.mp hp
   exact c.empty q hq
 · obtain ⟨q, hq, rfl⟩ := List.mem_map.mp hp
   exact c.out q hq
 · obtain ⟨q, hq, rfl⟩ := List.mem_map.mp hp
   exact PySem.W.codeHd_of_K X (c.hd q hq)
 · have := F.bindsA (ps := [x]) (fun kV doc pm an cdv ct us hl => by
     have := hb iL name hi kV doc pm an cdv ct us (by rw [hps]; exact hl)
     rw [hps] at this
     exact this) s [u] rfl
   exact this
 · obtain ⟨M, hM⟩ := law ns hl hz
   refine sp_law (W := L.W l.prog w K mg h (L.Wt K tf)) (by show (L.pss.getD iL []).length = 1; rw [hps]; rfl) (fun p hp => ?_) hS hM
   obtain ⟨q, hq, rfl⟩ := List.mem_map.mp hp
   exact hT _ (List.mem_map.mpr ⟨q, hq, rfl⟩)
 · have wok := wok_of (P := l.prog) (w := w) (base := base) (tb := L.Wt K tf) X Gl cS c.more hn htb ok hbo hnp hb
   have defs := defs_of (P := l.prog) (w := w) (mg := mg) (base := base) (tb := L.Wt K tf) ok cS fun i y hy hl => by
     have hm := hlam i y hy hl
     exact ⟨(He.cT K (y, none)).2, List.mem_map.mpr ⟨(y, none), hm, rfl⟩, hTB _ (List.mem_map.mpr ⟨(y, none), hm, rfl⟩)⟩
   have F0 := (calls_all wok defs k k (Nat.le_refl k)).calmW iL name hi
   have e : L.nms.getD iL "" = name := getD_of hi
   have e1 : (L.W l.prog w K mg base (L.Wt K tf)).fa iL = He.ga K name := by
     show He.ga K (L.nms.getD iL "") = _
     rw [e]
   have e2 : (L.W l.prog w K mg base (L.Wt K tf)).fd iL = fd := by
     show (fdAt K (He.ga K (L.nms.getD iL ""))).getD _ = fd
     rw [e, fdAt_of F]
     rfl
   have e3 : (L.W l.prog w K mg base (L.Wt K tf)).ps iL = [x] := hps
   rw [e1, e2, e3] at F0
   exact F0.imp fun vs H Q E q => by
     obtain ⟨h1, ι, M, v, vs', ns, zs, ev, m, hs, dz, en⟩ := q
     refine ⟨h1, ι, M, v, vs', ns, zs, ev, ⟨m.m, m.f, m.t, m.o⟩, hs, dz, ?_⟩
     have en : EndF (L.W l.prog w K mg h (L.Wt K tf)) ι H Q E (((L.W l.prog w K mg base (L.Wt K tf)).cfg k false).fnW false iL (.scr ns) zs M) := en
     cases r : ((L.W l.prog w K mg base (L.Wt K tf)).cfg k false).fnW false iL (.scr ns) zs M with
     | ok z M2 =>
       rw [r] at en
       exact fun ι' v H' x m' d => en ι' v H' x ⟨m'.m, m'.f, m'.t, m'.o⟩ d
     | ex x M2 =>
       rw [r] at en
       exact fun ι' dx H' x m' xf => en ι' dx H' x ⟨m'.m, m'.f, m'.t, m'.o⟩ xf
     | bad =>
       rw [r] at en
       exact en
end Zt
namespace Zt
open PySem PySem.Spec PyProof.Rows L2
def obsY (n : List Addr) (fa : List He.Fa) (fn : List He.DefD) (tf : List He.Defn) (ex : PySem.W.Frag → Bool) (g : Addr → Option Obj) : He.AlX :=
 (He.obsT fa fn [] (He.frT g n), ex (He.frT g n) && He.tabsB g tf (He.frT g n))
theorem saysY {n : List Addr} {fa : List He.Fa} {fn : List He.DefD} {tf : List He.Defn} {ex : PySem.W.Frag → Bool} {w : World} {h : Heap} (e : obsY n fa fn tf ex h.get? = He.valX fn [] w) : He.SaysX fa fn [] tf ex w h (He.frT h.get? n) := by
 have a1 := congrArg Prod.fst e
 have a2 := congrArg Prod.snd e
 have a2 : (ex (He.frT h.get? n) && He.tabsB h.get? tf (He.frT h.get? n)) = true := a2
 rw [Bool.and_eq_true] at a2
 have tab : ∀ p ∈ tf, PySem.W.codeHdIn (He.frT h.get? n) (He.cT (He.frT h.get? n) p).1 (He.cT (He.frT h.get? n) p).2 = true ∧ ∃ o, h.get? (He.cT (He.frT h.get? n) p).2 = some o ∧ He.emptyTab o = true := by
   intro p hp
   have b := List.all_eq_true.mp a2.2 p hp
   rw [Bool.and_eq_true] at b
   refine ⟨b.1, ?_⟩
   have b2 := b.2
   split at b2
   · rename_i o q
     exact ⟨o, q, b2⟩
   · cases b2
 refine ⟨a1, a2.1, fun p hp => (tab p hp).1, fun p hp => ?_, fun p hp => ?_⟩
 · obtain ⟨_, o, q1, q2⟩ := tab p hp
   exact He.frT_none q1 q2
 · obtain ⟨_, o, q1, q2⟩ := tab p hp
   rw [q1, He.emptyTab_eq q2]
def hookY (n : List Addr) (fa : List He.Fa) (fn : List He.DefD) (tf : List He.Defn) (ex : PySem.W.Frag → Bool) : PySem.W.Hook where
 α := He.AlX
 obs := fun s => obsY n fa fn tf ex s.heap.get?
 val := fun w => He.valX fn [] w
 says := (He.hookX 0 fa fn [] tf ex).says
 of := fun _ _ e => ⟨_, He.frT_in, saysY e⟩
 keeps := (He.hookX 0 fa fn [] tf ex).keeps
theorem obsY_eq {n : List Addr} {fa : List He.Fa} {fn : List He.DefD} {tf : List He.Defn} {ex : PySem.W.Frag → Bool} {g : Addr → Option Obj} {s : Shared} (h : ∀ a, g a = s.heap.get? a) : obsY n fa fn tf ex g = (hookY n fa fn tf ex).obs s := by
 rw [show g = s.heap.get? from funext h] <;> rfl
def obsY1 (n : List Addr) (fa : List He.Fa) (fn : List He.DefD) (g : Addr → Option Obj) : He.AlT := He.obsT fa fn [] (He.frT g n)
def obsY2 (n : List Addr) (ex : PySem.W.Frag → Bool) (g : Addr → Option Obj) : Bool := ex (He.frT g n)
def obsY3 (n : List Addr) (tf : List He.Defn) (g : Addr → Option Obj) : Bool := He.tabsB g tf (He.frT g n)
noncomputable abbrev endY (r : PySem.W.OpenRow) (M : Nat) (w : World) (os : OsState) : Option PySem.W.SharedT := HandSHeadRun.endF (HandSHeadRun.stepQ (HandSHeadRun.denQ HandSHeadRun.tabQ) r.prog w) M r.prog w os
def obsYa (n : List Addr) (fa : List He.Fa) (g : Addr → Option Obj) : Bool := fa.all fun f => f.ok (He.frT g n)
def obsYf (n : List Addr) (fn : List He.DefD) (g : Addr → Option Obj) : Bool × List He.FnW := (fn.all fun d => d.ok (He.frT g n), fn.map fun d => He.fnW (He.frT g n) d.at_)
def valF (fn : List He.DefD) : Bool × List He.FnW := (true, fn.map He.DefD.val)
theorem obsYf_app {n : List Addr} {f1 f2 : List He.DefD} {g : Addr → Option Obj} (h1 : obsYf n f1 g = valF f1) (h2 : obsYf n f2 g = valF f2) : obsYf n (f1 ++ f2) g = valF (f1 ++ f2) := by
 obtain ⟨a1, b1⟩ := Prod.mk.inj h1
 obtain ⟨a2, b2⟩ := Prod.mk.inj h2
 unfold obsYf valF
 rw [List.all_append, List.map_append, List.map_append, a1, b1, a2, b2]
 rfl
theorem obs1_of {n : List Addr} {fa : List He.Fa} {fn : List He.DefD} {g : Addr → Option Obj} {w : World} {q : Nat} (ha : obsYa n fa g = true) (h1 : obsYf n (fn.take q) g = valF (fn.take q)) (h2 : obsYf n ((fn.drop q).take q) g = valF ((fn.drop q).take q)) (h3 : obsYf n (((fn.drop q).drop q).take q) g = valF (((fn.drop q).drop q).take q)) (h4 : obsYf n (((fn.drop q).drop q).drop q) g = valF (((fn.drop q).drop q).drop q)) :
   obsY1 n fa fn g = He.valT fn [] w := by
 have e := obsYf_app h1 (obsYf_app h2 (obsYf_app h3 h4))
 rw [List.take_append_drop, List.take_append_drop, List.take_append_drop] at e
 obtain ⟨a1, b1⟩ := Prod.mk.inj e
 show (((fa.all fun f => f.ok (He.frT g n)) && fn.all fun d => d.ok (He.frT g n), fn.map fun d => He.fnW (He.frT g n) d.at_), ([] : List (Option (List (Option (Str × Int)))))) = _
 rw [show (fa.all fun f => f.ok (He.frT g n)) = true from ha, a1, b1]
 rfl
theorem run1_of {r : PySem.W.OpenRow} {n : List Addr} {M q : Nat} {fa : List He.Fa} {fn : List He.DefD} {w : World} {os : OsState} (ha : (endY r M w os).map (fun s => obsYa n fa (HandSHeadRun.getT s)) = some true)
   (h1 : (endY r M w os).map (fun s => obsYf n (fn.take q) (HandSHeadRun.getT s)) = some (valF (fn.take q))) (h2 : (endY r M w os).map (fun s => obsYf n ((fn.drop q).take q) (HandSHeadRun.getT s)) = some (valF ((fn.drop q).take q)))
   (h3 : (endY r M w os).map (fun s => obsYf n (((fn.drop q).drop q).take q) (HandSHeadRun.getT s)) = some (valF (((fn.drop q).drop q).take q))) (h4 : (endY r M w os).map (fun s => obsYf n (((fn.drop q).drop q).drop q) (HandSHeadRun.getT s)) = some (valF (((fn.drop q).drop q).drop q))) :
   (endY r M w os).map (fun s => obsY1 n fa fn (HandSHeadRun.getT s)) = some (He.valT fn [] w) := by
 generalize endY r M w os = o at ha h1 h2 h3 h4 ⊢
 cases o with
 | none => cases ha
 | some s => exact congrArg some (obs1_of (Option.some.inj ha) (Option.some.inj h1) (Option.some.inj h2) (Option.some.inj h3) (Option.some.inj h4))
theorem run_of {r : PySem.W.OpenRow} {q : Program} {n : List Addr} {M : Nat} {fa : List He.Fa} {fn : List He.DefD} {tf : List He.Defn} {ex : PySem.W.Frag → Bool} {loose : List Str} {w : World}
   (a : ∀ os, (endY r M w os).map (fun s => HandSHeadRun.looksF r.prog (PySem.W.boot_heap w.params) s.abs) = some true)
   (b : ∀ os, (endY r M w os).map (fun s => HandSHeadRun.seenQ q loose (importedModules r.prog.main.body) (fun s => PySem.W.xlAt q [] s && PySem.W.recOk r.toRowW.records s) s.abs) = some (PySem.W.openGood q loose))
   (c1 : ∀ os, (endY r M w os).map (fun s => obsY1 n fa fn (HandSHeadRun.getT s)) = some (He.valT fn [] w))
   (c2 : ∀ os, (endY r M w os).map (fun s => obsY2 n ex (HandSHeadRun.getT s)) = some true)
   (c3 : ∀ os, (endY r M w os).map (fun s => obsY3 n tf (HandSHeadRun.getT s)) = some true)
   :
   HandSHeadRun.RunEq r q (hookY n fa fn tf ex) (fun s => obsY n fa fn tf ex (HandSHeadRun.getT s)) M loose w := fun os => by
 have a := a os
 have b := b os
 have c1 := c1 os
 have c2 := c2 os
 have c3 := c3 os
 show (endY r M w os).map _ = _
 generalize endY r M w os = o at a b c1 c2 c3 ⊢
 cases o with
 | none => cases a
 | some s =>
   have a : HandSHeadRun.looksF r.prog (PySem.W.boot_heap w.params) s.abs = true := Option.some.inj a
   have b : HandSHeadRun.seenQ q loose (importedModules r.prog.main.body) (fun s => PySem.W.xlAt q [] s && PySem.W.recOk r.toRowW.records s) s.abs = PySem.W.openGood q loose := Option.some.inj b
   have c1 : obsY1 n fa fn (HandSHeadRun.getT s) = He.valT fn [] w := Option.some.inj c1
   have c2 : obsY2 n ex (HandSHeadRun.getT s) = true := Option.some.inj c2
   have c3 : obsY3 n tf (HandSHeadRun.getT s) = true := Option.some.inj c3
   show some (HandSHeadRun.looksF r.prog (PySem.W.boot_heap w.params) s.abs, HandSHeadRun.seenQ q loose (importedModules r.prog.main.body) (fun s => PySem.W.xlAt q [] s && PySem.W.recOk r.toRowW.records s) s.abs, (obsY1 n fa fn (HandSHeadRun.getT s), obsY2 n ex (HandSHeadRun.getT s) && obsY3 n tf (HandSHeadRun.getT s))) = some (true, PySem.W.openGood q loose, (He.valT fn [] w, true))
   rw [a, b, c1, c2, c3]
   rfl
end Zt
namespace Lw
open PySem PySem.Spec PyProof.Rows L2 Zt
abbrev i_law_vat : Nat := 0
def d_law_vat : Def := ⟨2, 3, (.cons (.asg (.nm 2) (.bin .add (.bin .mul (.ki 7919) (.v 1)) (.ki 43)))
 (.cons (.ifs (.cmp .lt (.v 1) (.sln 0))
 (.cons (.asg (.nm 2) (.bi .abs (.cons (.bi .int (.cons (.six 0 (.v 1)) .nil)) .nil)))
 .nil)
 .nil)
 (.cons (.ret (.mls (.cons (.ite (.cmp .ge (.v 2) (.bin .pow (.ki 10) (.ki 18))) (.v 2) (.ki 0)) (.cons (.bin .add (.bin .mod (.bi .int (.cons (.bin .add (.bin .add (.bin .mul (.v 2) (.ki 131071)) (.bin .mul (.ki 8191) (.v 1))) (.ki 5)) .nil)) (.ki 2147483629)) (.ki 1)) .nil))))
 .nil)))⟩
def n_law_vat : List Str := [("_law_script" : Str), ("_law_k" : Str), ("_law_cell" : Str)]
abbrev i_law_under : Nat := 1
def d_law_under : Def := ⟨2, 4, (.cons (.ifs (.cmp .gt (.sub (.v 0) (.ki 0)) (.ki 0))
 (.cons (.asg (.nm 3) (.bin .mod (.bi .int (.cons (.sub (.v 0) (.ki 0)) .nil)) (.v 1)))
 (.cons (.setI (.v 0) (.ki 0) (.bin .fdiv (.sub (.v 0) (.ki 0)) (.v 1)))
 (.cons (.ret (.v 3))
 .nil)))
 .nil)
 (.cons (.setI (.v 0) (.ki 1) (.bin .mod (.bi .int (.cons (.bin .add (.bin .mul (.sub (.v 0) (.ki 1)) (.ki 39373)) (.ki 101)) .nil)) (.ki 2147483629)))
 (.cons (.asg (.nm 2) (.bin .mod (.bi .int (.cons (.bin .mul (.sub (.v 0) (.ki 1)) (.bin .add (.bin .fdiv (.sub (.v 0) (.ki 1)) (.ki 5)) (.ki 9))) .nil)) (.ki 2147483587)))
 (.cons (.ret (.bin .mod (.bi .int (.cons (.bin .fdiv (.v 2) (.ki 32)) .nil)) (.v 1)))
 .nil))))⟩
def n_law_under : List Str := [("_law_vat_here" : Str), ("_law_many" : Str), ("_law_wide" : Str), ("_law_found" : Str)]
abbrev i_law_some : Nat := 2
def d_law_some : Def := ⟨2, 2, (.cons (.ret (.sub (.v 1) (.call 1 (.cons (.v 0) (.cons (.bi .len (.cons (.v 1) .nil)) .nil)))))
 .nil)⟩
def n_law_some : List Str := [("_law_vat_here" : Str), ("_law_things" : Str)]
def t_law_names_1 : T := (.e (.v 5))
def e_law_names_1 : E := (.v 4)
def d_law_names : Def := ⟨1, 6, (.cons (.asg (.nm 1) (.lst (.cons (.isx 0 1) (.cons (.isx 0 2) (.cons (.isx 0 3) (.cons (.isx 0 4) (.cons (.isx 0 5) (.cons (.isx 0 6) (.cons (.isx 0 7) (.cons (.isx 0 8) (.cons (.isx 0 9) (.cons (.isx 0 10) (.cons (.isx 0 11) (.cons (.isx 0 12) (.cons (.isx 0 13) (.cons (.isx 0 14) (.cons (.isx 0 15) (.cons (.isv 0) .nil))))))))))))))))))
 (.cons (.asg (.nm 2) (.ks "stand row script facts fact lengths place number seen index impossible endless undo"))
 (.cons (.asg (.nm 3) (.bin .add (.mth .split (.v 2) (.cons (.ks " ") .nil)) (.lst (.cons (.ks "many") (.cons (.ks "text") (.cons (.ks "value") .nil))))))
 (.cons (.ret (.mth .join (.ks " ") (.cons (.lc e_law_names_1 (.tp [4, 5]) (.zip (.v 3) (.v 1)) (.so t_law_names_1) [4, 5]) .nil)))
 .nil))))⟩
def n_law_names : List Str := [("_law_e" : Str), ("_law_some_here" : Str), ("_law_words_so" : Str), ("_law_labels" : Str), ("_law_word" : Str), ("_law_good" : Str)]
def b_law_1 : Ss := (.cons (.ifs (.or (.cons (.cmp .ne (.call 3 (.cons (.v 7) .nil)) (.bin .add (.v 8) (.ks " value"))) (.cons (.not (.e (.isx 7 0))) .nil)))
 (.cons (.ret (.kb false))
 .nil)
 .nil)
 .nil)
def t_law_1 : T := (.cmp .ne (.bi .str (.cons (.v 7) .nil)) (.v 5))
def e_law_1 : E := (.v 7)
def b_law_2 : Ss := (.cons (.asg (.nm 3) (.callW 0 0 (.cons (.v 2) .nil)))
 (.cons (.parN [5, 6] (.cons (.call 2 (.cons (.v 3) (.cons (.lst (.cons (.ks "") (.cons (.ks "no script") (.cons (.ks "a b c") .nil)))) .nil))) (.cons (.call 1 (.cons (.v 3) (.cons (.ki 1000) .nil))) .nil)))
 (.cons (.asg (.nm 4) (.lst (.cons (.mkx 1 (.v 5)) (.cons (.mkx 2 (.v 5)) (.cons (.mkx 3 (.v 5)) (.cons (.mkx 4 (.v 5)) .nil))))))
 (.cons (.asg (.nm 4) (.bin .add (.v 4) (.lst (.cons (.mkx 5 (.v 5)) (.cons (.mkx 6 (.v 5)) (.cons (.mkx 7 (.v 5)) .nil))))))
 (.cons (.asg (.nm 4) (.bin .add (.v 4) (.lst (.cons (.mkx 8 (.v 5)) (.cons (.mkx 9 (.v 5)) (.cons (.mkx 10 (.v 5)) .nil))))))
 (.cons (.asg (.nm 4) (.bin .add (.v 4) (.lst (.cons (.mkx 11 (.v 5)) (.cons (.mkx 12 (.v 5)) (.cons (.mkx 13 (.v 5)) .nil))))))
 (.cons (.asg (.nm 4) (.bin .add (.v 4) (.lst (.cons (.mki 14 "limit" (.v 6)) (.cons (.mki 15 "line" (.v 6)) .nil)))))
 (.cons (.for (.tp [7, 8]) (.zip (.v 4) (.mth .split (.v 1) (.cons (.ks " ") .nil)))
 b_law_1)
 (.cons (.ifs (.cmp .ne (.lc e_law_1 (.nm 7) (.it (.slc (.v 4) .no (.so (.ki 13)))) (.so t_law_1) [7]) (.lst .nil))
 (.cons (.ret (.kb false))
 .nil)
 .nil)
 (.cons (.ifs (.or (.cons (.cmp .ne (.call 3 (.cons (.mkx 0 (.v 5)) .nil)) (.ks "value")) (.cons (.cmp .ne (.lst (.cons (.atx (.sub (.v 4) (.ki 13)) "limit") (.cons (.atx (.sub (.v 4) (.ki 14)) "line") .nil))) (.lst (.cons (.v 6) (.cons (.v 6) .nil)))) .nil)))
 (.cons (.ret (.kb false))
 .nil)
 .nil)
 .nil))))))))))
def d_law : Def := ⟨1, 9, (.cons (.asg (.nm 1) (.ks "stand row script facts fact lengths place number seen index impossible endless undo many text"))
 (.cons (.for (.nm 2) (.rng1 (.bi .max (.cons (.ki 3) (.cons (.bi .min (.cons (.ki 6) (.cons (.sln 0) .nil))) .nil))))
 b_law_2)
 (.cons (.ret (.kb true))
 .nil)))⟩
def n_law : List Str := [("_law_script" : Str), ("_law_words_so" : Str), ("_law_k" : Str), ("_law_vat_here" : Str), ("_law_errors_so" : Str), ("_law_text" : Str), ("_law_at" : Str), ("_law_error" : Str), ("_law_word" : Str)]
def tab : List Def := [d_law_vat, d_law_under, d_law_some, d_law_names, d_law]
def nms : List Str := [("_law_vat" : Str), ("_law_under" : Str), ("_law_some" : Str), ("_law_names" : Str), ("law" : Str)]
def pss : List (List Str) := [[("_law_script" : Str), ("_law_k" : Str)], [("_law_vat_here" : Str), ("_law_many" : Str)], [("_law_vat_here" : Str), ("_law_things" : Str)], [("_law_e" : Str)], [("_law_script" : Str)]]
def cls : List Str := [("YardError" : Str), ("InvalidStand" : Str), ("InvalidRow" : Str), ("InvalidScript" : Str), ("InvalidFacts" : Str), ("InvalidFact" : Str), ("InvalidLengths" : Str), ("InvalidPlace" : Str), ("InvalidNumber" : Str), ("InvalidSeen" : Str), ("InvalidIndex" : Str), ("Impossible" : Str), ("Endless" : Str), ("NothingToUndo" : Str), ("TooMany" : Str), ("InvalidText" : Str)]
def pls : List Bool := [true, true, true, true, true, true, true, true, true, true, true, true, true, true, false, false]
def cns : List Str := []
def top (i : Nat) : Stmt := PySem.Challenge.pw_wagonlengths_k19_errors_and_their_classe.main.body.getD i (.Pass ⟨0, 0, 0, 0⟩)
def nss : List (List Str) := [n_law_vat, n_law_under, n_law_some, n_law_names, n_law]
def bodies : List Stmt := [top 18, top 19, top 20, top 21, top 22]
def lams : List Bool := [false, false, false, false, false]
def own : List (Option OwnD) := [none, none, none, none, none, none, none, none, none, none, none, none, none, none, some ⟨"limit", "limit", "YardError", top 15⟩, some ⟨"line", "line", "YardError", top 16⟩]
def gv : List D := []
def sub (c d : Nat) : Bool := d == 1000 || c == d || d == 0
def L : LawD := ⟨tab, nms, pss, nss, bodies, lams, cls, pls, own, cns, gv, sub, 1000000⟩
theorem okB : L.okB = true := by decide +kernel
def tf : List He.Defn := []
theorem tf_ok (K : PySem.W.Frag) : ∀ p ∈ L.Wt K tf, ∀ q ∈ L.Wt K tf, p.1 = q.1 → p.2 = q.2 := fun p hp => nomatch hp
end Lw
namespace Lw
open PySem PySem.Spec PyProof.Rows L2 Zt
abbrev Rr : PySem.W.OpenRow := PySem.W.OpenLaw.row PySem.Challenge.rw_wagonlengths_k19_errors_and_their_classe
def adr : List Addr := ([3, 24, 37, 49, 61, 73, 85, 97, 109, 121, 133, 145, 157, 169, 181, 200, 219, 228, 235, 242, 247, 252, 23, 36, 48, 60, 72, 84, 96, 108, 120, 132, 144, 156, 168, 180, 199, 218, 227, 234] : List Nat) ++ ([241, 246, 251, 197, 216, 196, 215, 2] : List Nat)
abbrev hk : PySem.W.Hook := Zt.hookY adr L.fa L.fn tf L.ex
def ob (s : PySem.W.SharedT) : He.AlX := Zt.obsY adr L.fa L.fn tf L.ex (HandSHeadRun.getT s)
theorem ob_eq (s : PySem.W.SharedT) : ob s = hk.obs s.abs := Zt.obsY_eq (HandSHeadRun.getT_eq s)
def loose : List PySem.Str := (["YardError", "InvalidStand", "InvalidRow", "InvalidScript", "InvalidFacts", "InvalidFact", "InvalidLengths", "InvalidPlace", "InvalidNumber", "InvalidSeen", "InvalidIndex", "Impossible", "Endless", "NothingToUndo", "TooMany", "InvalidText", "_law_vat", "_law_under", "_law_some", "_law_names"] : List PySem.Str)
theorem runA (w : World) (os : OsState) : (endY Rr 20000 w os).map (fun s => HandSHeadRun.looksF Rr.prog (PySem.W.boot_heap w.params) s.abs) = some true := by
 kernel_rfl
theorem runB (w : World) (os : OsState) : (endY Rr 20000 w os).map (fun s => HandSHeadRun.seenQ (PySem.W.view Rr.prog [22]) loose (importedModules Rr.prog.main.body) (fun s => PySem.W.xlAt (PySem.W.view Rr.prog [22]) [] s && PySem.W.recOk Rr.toRowW.records s) s.abs) = some (PySem.W.openGood (PySem.W.view Rr.prog [22]) loose) := by
 kernel_rfl
theorem runC0 (w : World) (os : OsState) : (endY Rr 20000 w os).map (fun s => Zt.obsYa adr L.fa (HandSHeadRun.getT s)) = some true := by
 kernel_rfl
theorem runC1 (w : World) (os : OsState) : (endY Rr 20000 w os).map (fun s => Zt.obsYf adr (L.fn.take 2) (HandSHeadRun.getT s)) = some (valF (L.fn.take 2)) := by
 kernel_rfl
theorem runC2 (w : World) (os : OsState) : (endY Rr 20000 w os).map (fun s => Zt.obsYf adr ((L.fn.drop 2).take 2) (HandSHeadRun.getT s)) = some (valF ((L.fn.drop 2).take 2)) := by
 kernel_rfl
theorem runC3 (w : World) (os : OsState) : (endY Rr 20000 w os).map (fun s => Zt.obsYf adr (((L.fn.drop 2).drop 2).take 2) (HandSHeadRun.getT s)) = some (valF (((L.fn.drop 2).drop 2).take 2)) := by
 kernel_rfl
theorem runC4 (w : World) (os : OsState) : (endY Rr 20000 w os).map (fun s => Zt.obsYf adr (((L.fn.drop 2).drop 2).drop 2) (HandSHeadRun.getT s)) = some (valF (((L.fn.drop 2).drop 2).drop 2)) := by
 kernel_rfl
theorem runC (w : World) (os : OsState) : (endY Rr 20000 w os).map (fun s => Zt.obsY1 adr L.fa L.fn (HandSHeadRun.getT s)) = some (He.valT L.fn [] w) := run1_of (q := 2) (runC0 w os) (runC1 w os) (runC2 w os) (runC3 w os) (runC4 w os)
theorem runD (w : World) (os : OsState) : (endY Rr 20000 w os).map (fun s => Zt.obsY2 adr L.ex (HandSHeadRun.getT s)) = some true := by
 kernel_rfl
theorem runE (w : World) (os : OsState) : (endY Rr 20000 w os).map (fun s => Zt.obsY3 adr tf (HandSHeadRun.getT s)) = some true := by
 kernel_rfl
theorem run (w : World) : HandSHeadRun.RunEq Rr (PySem.W.view Rr.prog [22]) hk ob 20000 loose w := Zt.run_of (runA w) (runB w) (runC w) (runD w) (runE w)
end Lw
namespace Lw
open PySem PySem.Spec PyProof.Rows L2 Zt
theorem hb0 (kV doc pm : Value) (an : Option Addr) (cdv ct : Value) (us : List Value) (hl : us.length = 2) : bindArgs (PySem.W.fnOf "_law_vat" "_law_vat" (defArgs (L.st 0)) (defBody (L.st 0)) (defScope (L.st 0)) .none kV doc pm an cdv ct) ⟨us, []⟩ = pure ((L.pss.getD 0 []).zip us) := match us, hl with
 | [_, _], _ => rfl
theorem hb1 (kV doc pm : Value) (an : Option Addr) (cdv ct : Value) (us : List Value) (hl : us.length = 2) : bindArgs (PySem.W.fnOf "_law_under" "_law_under" (defArgs (L.st 1)) (defBody (L.st 1)) (defScope (L.st 1)) .none kV doc pm an cdv ct) ⟨us, []⟩ = pure ((L.pss.getD 1 []).zip us) := match us, hl with
 | [_, _], _ => rfl
theorem hb2 (kV doc pm : Value) (an : Option Addr) (cdv ct : Value) (us : List Value) (hl : us.length = 2) : bindArgs (PySem.W.fnOf "_law_some" "_law_some" (defArgs (L.st 2)) (defBody (L.st 2)) (defScope (L.st 2)) .none kV doc pm an cdv ct) ⟨us, []⟩ = pure ((L.pss.getD 2 []).zip us) := match us, hl with
 | [_, _], _ => rfl
theorem hb3 (kV doc pm : Value) (an : Option Addr) (cdv ct : Value) (us : List Value) (hl : us.length = 1) : bindArgs (PySem.W.fnOf "_law_names" "_law_names" (defArgs (L.st 3)) (defBody (L.st 3)) (defScope (L.st 3)) .none kV doc pm an cdv ct) ⟨us, []⟩ = pure ((L.pss.getD 3 []).zip us) := match us, hl with
 | [_], _ => rfl
theorem hb4 (kV doc pm : Value) (an : Option Addr) (cdv ct : Value) (us : List Value) (hl : us.length = 1) : bindArgs (PySem.W.fnOf "law" "law" (defArgs (L.st 4)) (defBody (L.st 4)) (defScope (L.st 4)) .none kV doc pm an cdv ct) ⟨us, []⟩ = pure ((L.pss.getD 4 []).zip us) := match us, hl with
 | [_], _ => rfl
theorem hbs : ∀ (i : Nat) (y : Str), L.nms[i]? = some y → ∀ (kV doc pm : Value) (an : Option Addr) (cdv ct : Value) (us : List Value), us.length = (L.pss.getD i []).length → bindArgs (PySem.W.fnOf y y (defArgs (L.st i)) (defBody (L.st i)) (defScope (L.st i)) .none kV doc pm an cdv ct) ⟨us, []⟩ = pure ((L.pss.getD i []).zip us)
 | 0, _, h => by cases h; exact hb0
 | 1, _, h => by cases h; exact hb1
 | 2, _, h => by cases h; exact hb2
 | 3, _, h => by cases h; exact hb3
 | 4, _, h => by cases h; exact hb4
 | i + 5, _, h => nomatch h
theorem hlams : ∀ (i : Nat) (y : Str), L.nms[i]? = some y → L.lams.getD i false = true → (y, none) ∈ tf
 | 0, _, _, h => nomatch h
 | 1, _, _, h => nomatch h
 | 2, _, _, h => nomatch h
 | 3, _, _, h => nomatch h
 | 4, _, _, h => nomatch h
 | i + 5, _, h, _ => nomatch h
theorem hbo0 : ∀ (i : Nat) (c : Str) (o : OwnD), (L.cls.zip L.own)[i]? = some (c, some o) → ∀ (kV doc pm : Value) (an : Option Addr) (cdv ct : Value) (us : List Value), us.length = 2 → bindArgs (PySem.W.fnOf "__init__" (c ++ ".__init__") (defArgs (initOf o.st)) (defBody (initOf o.st)) (defScope (initOf o.st)) .none kV doc pm an cdv ct) ⟨us, []⟩ = pure ((["self", o.x] : List Str).zip us)
 | 0, _, _, h => nomatch h
 | 1, _, _, h => nomatch h
 | 2, _, _, h => nomatch h
 | 3, _, _, h => nomatch h
 | 4, _, _, h => nomatch h
 | 5, _, _, h => nomatch h
 | 6, _, _, h => nomatch h
 | 7, _, _, h => nomatch h
 | 8, _, _, h => nomatch h
 | 9, _, _, h => nomatch h
 | 10, _, _, h => nomatch h
 | 11, _, _, h => nomatch h
 | 12, _, _, h => nomatch h
 | 13, _, _, h => nomatch h
 | 14, _, _, h => by
   cases h
   exact fun kV doc pm an cdv ct us hl => match us, hl with
     | [_, _], _ => rfl
 | 15, _, _, h => by
   cases h
   exact fun kV doc pm an cdv ct us hl => match us, hl with
     | [_, _], _ => rfl
 | i + 16, _, _, h => nomatch h
theorem hbo (c : Str) (o : OwnD) (h : (c, some o) ∈ L.cls.zip L.own) (kV doc pm : Value) (an : Option Addr) (cdv ct : Value) (us : List Value) (hl : us.length = 2) : bindArgs (PySem.W.fnOf "__init__" (c ++ ".__init__") (defArgs (initOf o.st)) (defBody (initOf o.st)) (defScope (initOf o.st)) .none kV doc pm an cdv ct) ⟨us, []⟩ = pure ((["self", o.x] : List Str).zip us) := by
 obtain ⟨i, hi⟩ := List.mem_iff_getElem?.mp h
 exact hbo0 i c o hi kV doc pm an cdv ct us hl
end Lw
namespace Lw
open PySem PySem.Spec PyProof.Rows L2 Zt
def PlainT : Prop := ∀ ns : List Int, ns.length ≤ 63 → (∀ z ∈ ns, Builtin.Int.intBits z ≤ 1048576) → ∃ M, (lev L.T (fun c d => L.sub (cix L.cls c) d) L.gv L.wf 8 false).fnW false 4 (.scr ns) [] [] = .ok (.d (.bool true)) M
end Lw
section
open PySem PySem.W PySem.Calls PyProof.Rows
theorem Lw.fin0 (hpl : Lw.PlainT) : PySem.Challenge.rw_wagonlengths_k19_errors_and_their_classe.Holds := by
 w_on; o_law
 refine HandSHeadRun.head_any (r := OpenLaw.row PySem.Challenge.rw_wagonlengths_k19_errors_and_their_classe) (q := view (OpenLaw.row PySem.Challenge.rw_wagonlengths_k19_errors_and_their_classe).prog [22]) (H := Lw.hk) (ob := Lw.ob) (M := 20000) (loose := Lw.loose) (d := HandSHeadRun.topDef (OpenLaw.row PySem.Challenge.rw_wagonlengths_k19_errors_and_their_classe).prog 22) (kwd := []) Lw.ob_eq
   (by kernel_rfl) (fun s => by kernel_rfl) Lw.run (by kernel_rfl) (by kernel_rfl) (by kernel_rfl) (by rfl) (by first | assumption | decide +kernel) (by decide +kernel) ⟨rfl, rfl, rfl, rfl, rfl, by decide +kernel⟩ ?hw ?hc
 case hw => w_witness2
 case hc =>
   refine LamX.walk_ofTsE (l := PySem.Challenge.rw_wagonlengths_k19_errors_and_their_classe) (n := 63) (k := 8) (x := "_law_script") (CX := fun w => L2N.CX (PySem.Challenge.rw_wagonlengths_k19_errors_and_their_classe).prog w) rfl (by decide) (by kernel_rfl) ⟨rfl, by decide, by decide⟩ ?F (fun w H s e s' z => by
     obtain ⟨a, B, H', cls, dd, _, _, _, _, _, _, _, hE⟩ := z
     exact hE)
   intro w mg fa h Y G hmg0
   obtain ⟨K, KX, c⟩ := Y
   have hmg : mg ("law" : PySem.Str) = some (.ref fa) := by
     have e : (HandSHeadRun.topDef (OpenLaw.row PySem.Challenge.rw_wagonlengths_k19_errors_and_their_classe).prog 22).name = ("law" : PySem.Str) := by kernel_rfl
     rw [← e]
     exact hmg0
   have cS : He.SaysD Lw.L.fa Lw.L.fn K := congrArg (fun z : He.AlT => z.1) c.t
   have e2 := hmg.symm.trans (He.glo_ok KX G (Zt.fact_of cS (f := .glo "law") (List.mem_append_left _ (List.mem_map.mpr ⟨"law", by decide +kernel, rfl⟩))))
   cases e2
   exact ⟨K, KX, Zt.lawAt (iL := 4) (name := "law") G KX c Lw.okB (by decide) (by decide +kernel) (by decide +kernel) Lw.hbo (Lw.tf_ok K) Lw.hlams Lw.hbs hpl⟩
end
namespace Zt
open PySem
section
variable {α β : Type} {M M' : Mem} {ρ : Env}
theorem zb_ok {a : α} {f : α → Mem → R β} : (R.ok a M).bind f = f a M := rfl
theorem zb_ex {e : Exn} {f : α → Mem → R β} : (R.ex e M : R α).bind f = .ex e M := rfl
theorem zb_bad {f : α → Mem → R β} : (R.bad : R α).bind f = .bad := rfl
theorem zb_of {a : α} : R.of (some a) M = .ok a M := rfl
theorem zb_no : R.of (none : Option α) M = .bad := rfl
theorem zt_ok {a : α} {f : α → Mem → O} : (R.ok a M).st ρ f = f a M := rfl
theorem zt_ex {e : Exn} {f : α → Mem → O} : (R.ex e M : R α).st ρ f = .ex e ρ M := rfl
theorem zt_bad {f : α → Mem → O} : (R.bad : R α).st ρ f = .bad := rfl
theorem zc_ok {a : α} : (R.ok a M).calm = .ok a M := rfl
theorem zc_bad : (R.bad : R α).calm = .bad := rfl
theorem zo_nx {f : Env → Mem → O} : (O.nx ρ M).bind f = f ρ M := rfl
theorem zo_rt {z : Z} {f : Env → Mem → O} : (O.rt z M).bind f = .rt z M := rfl
theorem zo_ex {e : Exn} {f : Env → Mem → O} : (O.ex e ρ M).bind f = .ex e ρ M := rfl
theorem zo_bad {f : Env → Mem → O} : O.bad.bind f = .bad := rfl
theorem zf_nx : finB (.nx ρ M) = .ok (.d .none) M := rfl
theorem zf_rt {z : Z} : finB (.rt z M) = .ok z M := rfl
theorem zf_ex {e : Exn} : finB (.ex e ρ M) = .ex e M := rfl
theorem gz_z {z : Z} {r : Env} : getZ (.z z :: r) 0 = some z := rfl
theorem gz_s {s : Sl} {r : Env} {i : Nat} : getZ (s :: r) (i + 1) = getZ r i := rfl
theorem slz_z {z : Z} : slZ (.z z) = some z := rfl
theorem b_nm {i : Nat} {z : Z} : bindT (.nm i) ρ z = some (ρ.set i (.z z)) := rfl
theorem asB_b {b : Bool} : asB (.d (.bool b)) M = .ok b M := rfl
theorem opz_dd {op : BOp} {a b : D} : opz op (.d a) (.d b) M = R.of ((bop op a b).map .d) M := rfl
theorem cpz_dd {op : COp} {a b : D} : cpz op (.d a) (.d b) M = R.of (cop op a b) M := rfl
theorem dsOf_nil : dsOf [] = some [] := rfl
theorem dsOf_cons {x : D} {r : List Z} : dsOf (.d x :: r) = (dsOf r).map (x :: ·) := rfl
theorem biz_d {b : Bi} {x : D} {r : List Z} : biz b (.d x :: r) M = R.of (((dsOf (.d x :: r)).bind (bid b)).map .d) M := by
 cases r <;> rfl
theorem subz_dd {d : D} {j : Int} : subz (.d d) (.d (.int j)) M = R.of ((itemD d j).map .d) M := rfl
theorem slz_dd {d : D} {a b : Option Int} : slz (.d d) a b M = R.of ((slcD d a b).map .d) M := rfl
theorem truthZ_d {d : D} : truthZ (.d d) M = truth d := rfl
theorem boolZ_eq {b : Bool} : boolZ b = .d (.bool b) := rfl
theorem zi_b {c : Prop} [Decidable c] {b : Bool} : (if c then R.ok (Z.d (.bool b)) M else R.ok (Z.d (.bool false)) M) = R.ok (Z.d (.bool (decide c && b))) M := by
 by_cases h : c <;> simp [h]
theorem zi_o {c : Prop} [Decidable c] {b : Bool} : (if c then R.ok true M else R.ok b M) = R.ok (decide c || b) M := by
 by_cases h : c <;> simp [h]
theorem zi_a {c : Prop} [Decidable c] {b : Bool} : (if c then R.ok b M else R.ok false M) = R.ok (decide c && b) M := by
 by_cases h : c <;> simp [h]
theorem for_cons {body : Env → Mem → O} {i : Nat} {z : Z} {zs : List Z} : forL body (.nm i) (z :: zs) ρ M = (body (ρ.set i (.z z)) M).bind fun ρ2 M2 => forL body (.nm i) zs ρ2 M2 := rfl
end
section
variable {T : List Def} {sub : Nat → Nat → Bool} {gv : List D} {wf : Nat}
theorem lev_hot : ∀ k h, (lev T sub gv wf k h).hot = h
 | 0, _ => rfl
 | _ + 1, _ => rfl
theorem lev_gv : ∀ k h, (lev T sub gv wf k h).gv = gv
 | 0, _ => rfl
 | _ + 1, _ => rfl
end
end Zt
namespace Lw
open PySem Zt
def LV (k : Nat) : Cfg := lev L.T (fun c d => L.sub (cix L.cls c) d) L.gv L.wf k false
def LB (hb : Bool) (k : Nat) : Cfg := lev L.T (fun c d => L.sub (cix L.cls c) d) L.gv L.wf k hb
theorem LB_hot (hb : Bool) (k : Nat) : (LB hb k).hot = hb := by cases k <;> rfl
theorem LV_hot (k : Nat) : (LV k).hot = false := lev_hot k false
theorem LV_gv (k : Nat) : (LV k).gv = gv := lev_gv k false
theorem s_law_vat (k : Nat) (ns : List Int) (a1 : Z) (M : Mem) : (LV (k + 1)).fnW false 0 (.scr ns) [a1] M = finB (evSs (LV k) d_law_vat.body [.scr ns, .z a1, .no] M) := rfl
theorem s_law_under (k : Nat) (a0 a1 : Z) (M : Mem) : (LV (k + 1)).fn false 1 [a0, a1] M = finB (evSs (LV k) d_law_under.body [.z a0, .z a1, .no, .no] M) := rfl
theorem s_law_some (k : Nat) (a0 a1 : Z) (M : Mem) : (LV (k + 1)).fn false 2 [a0, a1] M = finB (evSs (LV k) d_law_some.body [.z a0, .z a1] M) := rfl
theorem s_law (k : Nat) (ns : List Int)  (M : Mem) : (LV (k + 1)).fnW false 4 (.scr ns) [] M = finB (evSs (LV k) d_law.body [.scr ns, .no, .no, .no, .no, .no, .no, .no, .no] M) := rfl
end Lw
namespace Zt
open PySem
def dOk (n : Nat) (d : D) : Prop := d.canLay0 = true ∧ d.depth ≤ n
theorem canAll : ∀ {xs : List D}, PyData.canLayAll0 xs = true ↔ ∀ x ∈ xs, x.canLay0 = true
 | [] => by simp [PyData.canLayAll0]
 | x :: r => by simp [PyData.canLayAll0, canAll (xs := r)]
theorem depAll {n : Nat} : ∀ {xs : List D}, PyData.depthAll xs ≤ n ↔ ∀ x ∈ xs, x.depth ≤ n
 | [] => by simp [PyData.depthAll]
 | x :: r => by simp [PyData.depthAll, Nat.max_le, depAll (xs := r)]
theorem okD_iff {d : D} : okD d = true ↔ dOk 64 d := by
 unfold okD SeqAt.shaped dOk
 simp
theorem dOk_tuple {n : Nat} {xs : List D} : dOk (n + 1) (.tuple xs) ↔ ∀ x ∈ xs, dOk n x := by
 unfold dOk
 simp only [PyData.canLay0, PyData.depth, canAll, Nat.add_le_add_iff_right, depAll]
 exact ⟨fun h x hx => ⟨h.1 x hx, h.2 x hx⟩, fun h => ⟨fun x hx => (h x hx).1, fun x hx => (h x hx).2⟩⟩
theorem dOk_list {n : Nat} {xs : List D} : dOk (n + 1) (.list xs) ↔ ∀ x ∈ xs, dOk n x := by
 unfold dOk
 simp only [PyData.canLay0, PyData.depth, canAll, Nat.add_le_add_iff_right, depAll]
 exact ⟨fun h x hx => ⟨h.1 x hx, h.2 x hx⟩, fun h => ⟨fun x hx => (h x hx).1, fun x hx => (h x hx).2⟩⟩
theorem dOk_mono {n m : Nat} {d : D} (h : dOk n d) (l : n ≤ m) : dOk m d := ⟨h.1, Nat.le_trans h.2 l⟩
theorem dOk_str {n : Nat} {s : Str} : dOk n (.str s) ↔ PyData.strOk s = true := by simp [dOk, PyData.canLay0, PyData.depth]
theorem dOk_int {n : Nat} {i : Int} : dOk n (.int i) := by simp [dOk, PyData.canLay0, PyData.depth]
theorem dOk_bool {n : Nat} {b : Bool} : dOk n (.bool b) := by simp [dOk, PyData.canLay0, PyData.depth]
theorem dOk_none {n : Nat} : dOk n .none := by simp [dOk, PyData.canLay0, PyData.depth]
theorem okD_int {i : Int} : okD (.int i) = true := okD_iff.mpr dOk_int
theorem okD_bool {b : Bool} : okD (.bool b) = true := okD_iff.mpr dOk_bool
theorem okD_str {s : Str} : okD (.str s) = PyData.strOk s := by simp [okD, SeqAt.shaped, PyData.canLay0, PyData.depth]
theorem okD_nilL : okD (.list []) = true := okD_iff.mpr (dOk_list.mpr fun x hx => nomatch hx)
theorem okD_nilT : okD (.tuple []) = true := okD_iff.mpr (dOk_tuple.mpr fun x hx => nomatch hx)
theorem atI_0 {x : D} {r : List D} : L2.atI (x :: r) 0 = some x := by
 unfold L2.atI L2.ixN
 rw [if_pos (by omega), if_pos (by simp only [List.length_cons]; omega)]
 rfl
theorem atI_1 {x y : D} {r : List D} : L2.atI (x :: y :: r) 1 = some y := by
 unfold L2.atI L2.ixN
 rw [if_pos (by omega), if_pos (by simp only [List.length_cons]; omega)]
 rfl
theorem atI_2 {x y z : D} {r : List D} : L2.atI (x :: y :: z :: r) 2 = some z := by
 unfold L2.atI L2.ixN
 rw [if_pos (by omega), if_pos (by simp only [List.length_cons]; omega)]
 rfl
theorem atI_3 {x y z u : D} {r : List D} : L2.atI (x :: y :: z :: u :: r) 3 = some u := by
 unfold L2.atI L2.ixN
 rw [if_pos (by omega), if_pos (by simp only [List.length_cons]; omega)]
 rfl
theorem ofString_inj {a b : String} : Str.ofString a = Str.ofString b ↔ a = b := by
 constructor
 · intro h
   rw [Str.ofString_eq_toList, Str.ofString_eq_toList] at h
   have h1 : a.toList.map Char.toNat = b.toList.map Char.toNat := by
     have := congrArg (fun z : Str => z.cps.toList) h
     simpa using this
   have h2 : a.toList = b.toList := by
     have inj : ∀ x y : Char, x.toNat = y.toNat → x = y := fun x y e => Char.ext (UInt32.toNat_inj.mp e)
     exact (List.map_inj_right inj).mp h1
   exact String.toList_inj.mp h2
 · intro h
   rw [h]
theorem eqv_ls {a : String} {s : Str} : PyData.eqv (.str (Str.ofString a)) (.str s) = decide (s = Str.ofString a) := by
 simp [PyData.eqv, Bool.beq_eq_decide_eq, eq_comm]
theorem eqv_sl {a : String} {s : Str} : PyData.eqv (.str s) (.str (Str.ofString a)) = decide (s = Str.ofString a) := by
 simp [PyData.eqv, Bool.beq_eq_decide_eq]
theorem eqv_ii {a b : Int} : PyData.eqv (.int a) (.int b) = decide (a = b) := by
 simp [PyData.eqv, Bool.beq_eq_decide_eq]
theorem eqv_tt {x y : List D} : PyData.eqv (.tuple x) (.tuple y) = PyData.eqvAll x y := by simp [PyData.eqv]
theorem eqv_LL {x y : List D} : PyData.eqv (.list x) (.list y) = PyData.eqvAll x y := by simp [PyData.eqv]
theorem eqv_snone {s : Str} : PyData.eqv (.str s) .none = false := by simp [PyData.eqv]
theorem eqv_nones {s : Str} : PyData.eqv .none (.str s) = false := by simp [PyData.eqv]
theorem eqv_sbool {s : Str} {b : Bool} : PyData.eqv (.str s) (.bool b) = false := by simp [PyData.eqv]
theorem eqv_bools {s : Str} {b : Bool} : PyData.eqv (.bool b) (.str s) = false := by simp [PyData.eqv]
theorem eqv_sint {s : Str} {i : Int} : PyData.eqv (.str s) (.int i) = false := by simp [PyData.eqv]
theorem eqv_ints {s : Str} {i : Int} : PyData.eqv (.int i) (.str s) = false := by simp [PyData.eqv]
theorem eqv_stuple {s : Str} {l : List D} : PyData.eqv (.str s) (.tuple l) = false := by simp [PyData.eqv]
theorem eqv_tuples {s : Str} {l : List D} : PyData.eqv (.tuple l) (.str s) = false := by simp [PyData.eqv]
theorem eqv_slist {s : Str} {l : List D} : PyData.eqv (.str s) (.list l) = false := by simp [PyData.eqv]
theorem eqv_lists {s : Str} {l : List D} : PyData.eqv (.list l) (.str s) = false := by simp [PyData.eqv]
theorem eqvA_nn : PyData.eqvAll [] [] = true := by simp [PyData.eqvAll]
theorem eqvA_nc {x : D} {r : List D} : PyData.eqvAll [] (x :: r) = false := by simp [PyData.eqvAll]
theorem eqvA_cn {x : D} {r : List D} : PyData.eqvAll (x :: r) [] = false := by simp [PyData.eqvAll]
theorem eqvA_xn {xs : List D} : PyData.eqvAll xs [] = xs.isEmpty := by cases xs <;> simp [PyData.eqvAll]
theorem eqvA_cc {x y : D} {r l : List D} : PyData.eqvAll (x :: r) (y :: l) = (PyData.eqv x y && PyData.eqvAll r l) := by simp [PyData.eqvAll]
theorem okD_lit {a : String} : okD (.str (Str.ofString a)) = true := by
 rw [okD_str, Str.ofString_eq_toList]
 unfold PyData.strOk
 simp
 intro c _
 have h := c.valid
 simp only [UInt32.isValidChar, Nat.isValidChar] at h
 have e : c.toNat = c.val.toNat := rfl
 omega
theorem okD_T {xs : List D} (h : (xs.all fun d => flatD d && okD d) = true) : okD (.tuple xs) = true := okD_iff.mpr (dOk_tuple.mpr fun x hx => by
 have := List.all_eq_true.mp h x hx
 rw [Bool.and_eq_true] at this
 refine ⟨(okD_iff.mp this.2).1, ?_⟩
 cases x <;> first | (simp [PyData.depth]; done) | (exfalso; exact Bool.false_ne_true this.1))
def wholeB (v : D) (lo hi : Int) : Bool := match v with
 | .int i => decide (lo ≤ i) && decide (i ≤ hi)
 | _ => false
def wordB (v : D) (ws : List D) : Bool := match v with
 | .str s => inD (.str s) ws
 | _ => false
def kindB (v : D) : Bool := wordB v [.str "a", .str "b", .str "c"]
def sidB (v : D) : Bool := wordB v [.str "p", .str "q"]
def manyB (v : D) : Bool := wholeB v 1 8
def condB : D → Bool
 | .tuple (.str s :: r) =>
   if s = "fits" then (match r with
     | [a, b] => sidB a && manyB b
     | _ => false)
   else if s = "head" then (match r with
     | [a, b] => sidB a && kindB b
     | _ => false)
   else if s = "some" then (match r with
     | [a] => sidB a
     | _ => false)
   else if s = "rake" then (match r with
     | [a] => manyB a
     | _ => false)
   else if s = "tail" then (match r with
     | [a] => kindB a
     | _ => false)
   else decide (s = "turns") && r.isEmpty
 | _ => false
def plainB : D → Bool
 | .tuple (.str s :: r) =>
   if s = "pull" ∨ s = "push" then (match r with
     | [a, b] => sidB a && manyB b
     | _ => false)
   else if s = "fill" then (match r with
     | [a] => sidB a
     | _ => false)
   else decide (s = "turn") && r.isEmpty
 | _ => false
def itT : D → List D
 | .tuple xs => xs
 | _ => []
def partS : D → Str
 | .int i => (toString i : String)
 | .str s => s
 | _ => ""
def lineOf (xs : List D) : Str := Txt.join " " (xs.map partS)
def partOf (w : Str) : D := if w.length = 1 ∧ Txt.contains "12345678" w = true then .int ((intText? w).getD 0) else .str w
def partsOf (x : Str) : List D := (Txt.split x " ").map partOf
end Zt
namespace Zt
open PySem
def n8 : List Int := [1, 2, 3, 4, 5, 6, 7, 8]
def PA : List D := ((["pull", "push"] : List String).flatMap fun w => (["p", "q"] : List String).flatMap fun s => n8.map fun n => .tuple [.str (Str.ofString w), .str (Str.ofString s), .int n]) ++ ((["p", "q"] : List String).map fun s => .tuple [.str "fill", .str (Str.ofString s)]) ++ [.tuple [.str "turn"]]
def partOk : D → Bool
 | .str s => decide (s.length ≤ 8)
 | .int i => decide (1 ≤ i) && decide (i ≤ 8)
 | _ => false
def wordOk (w : Str) : Bool := decide (w.length ≤ 400000) && (!(decide (w.length = 1) && Txt.contains "12345678" w) || (intText? w).isSome) && PyData.strOk w
def lineOk (x : Str) : Bool := decide (x.length ≤ 400000) && (Txt.split x " ").all wordOk && decide ((Txt.split x " ").length ≤ 400001) && PyData.strOk x
structure LnF (xs : List D) : Prop where
 parts : partsOf (lineOf xs) = xs
 nl : 10 ∉ (lineOf xs).cps.toList
 len : (lineOf xs).length ≤ 20
 ok : lineOk (lineOf xs) = true
 items : ∀ x ∈ xs, partOk x = true
 few : xs.length ≤ 4
 ne1 : lineOf xs ≠ "else"
 ne2 : lineOf xs ≠ "end"
 ne3 : lineOf xs ≠ ""
end Zt
namespace Zt
open PySem
def isBr : List D → Bool
 | .str s :: _ => decide (s = "if") || decide (s = "while")
 | _ => false
def lineB (x : Str) : Bool := decide (x = "else") || decide (x = "end") || plainB (.tuple (partsOf x)) || (isBr (partsOf x) && condB (.tuple (partsOf x).tail))
structure StInv (n : Nat) (f : List D) (o : Option (List D)) (bs : List (List D)) : Prop where
 fl : f.length ≤ n
 bl : bs.length ≤ n + 1
 bb : ∀ b ∈ bs, b.length ≤ n
 op : ∀ q, o = some q → isBr q = true ∧ q.length ≤ 400001 ∧ bs ≠ [] ∧ okD (.tuple q) = true
end Zt
namespace Zt
open PySem
structure LnR (x : Str) : Prop where
 ok : lineOk x = true
 b : lineB x = true
 nl : 10 ∉ x.cps.toList
 ne : x ≠ ""
end Zt
namespace Zt
open PySem
theorem badd {i j : Int} : bop .add (.int i) (.int j) = some (.int (i + j)) := rfl
theorem bsub {i j : Int} : bop .sub (.int i) (.int j) = some (.int (i - j)) := rfl
theorem bmod {i j : Int} (h : 0 < j) : bop .mod (.int i) (.int j) = some (.int (i % j)) := by
 show (if 0 < j then _ else _) = _
 rw [if_pos h]
theorem log2_of {i : Int} {k : Nat} (h : i.natAbs < 2 ^ k) (hk : 0 < k) : i.natAbs.log2 < k := by
 by_cases z : i.natAbs = 0
 · rw [z]
   simpa using hk
 · exact (Nat.log2_lt z).mpr h
theorem bfdiv {i j : Int} (h : 0 < j) (h2 : j < 1099511627776) : bop .fdiv (.int i) (.int j) = some (.int (i / j)) := by
 have : j.natAbs.log2 < 40 := log2_of (by omega) (by omega)
 show (if 0 < j ∧ j.natAbs.log2 < 9000 then _ else _) = _
 rw [if_pos ⟨h, by omega⟩]
theorem bmul {i j : Int} (h1 : -1099511627776 < i) (h2 : i < 1099511627776) (h3 : -1099511627776 < j) (h4 : j < 1099511627776) : bop .mul (.int i) (.int j) = some (.int (i * j)) := by
 have e1 : i.natAbs.log2 < 40 := log2_of (by omega) (by omega)
 have e2 : j.natAbs.log2 < 40 := log2_of (by omega) (by omega)
 show (if i.natAbs.log2 + j.natAbs.log2 < 100000000 then _ else _) = _
 rw [if_pos (by omega)]
theorem bmulL {i j : Int} (h1 : i.natAbs.log2 ≤ 2000000) (h3 : -1099511627776 < j) (h4 : j < 1099511627776) : bop .mul (.int i) (.int j) = some (.int (i * j)) := by
 have e2 : j.natAbs.log2 < 40 := log2_of (by omega) (by omega)
 show (if i.natAbs.log2 + j.natAbs.log2 < 100000000 then _ else _) = _
 rw [if_pos (by omega)]
theorem log2_mono {a b : Nat} (h : a ≤ b) : a.log2 ≤ b.log2 := by
 by_cases z : a = 0
 · rw [z]
   simp
 · have hb : b ≠ 0 := by omega
   exact Nat.le_of_not_lt fun h2 => by
     have h3 := (Nat.log2_lt hb).mp h2
     have h4 : 2 ^ a.log2 ≤ a := Nat.log2_self_le z
     omega
def Vt (M : Mem) (n : Nat) : Prop := ∃ a b : Int, M[n]? = some (.lst [.int a, .int b]) ∧ 0 ≤ a ∧ a.natAbs.log2 ≤ 1100000 ∧ 0 ≤ b ∧ b ≤ 2147483629
structure Dr (n : Nat) (M M' : Mem) : Prop where
 v : Vt M' n
 l : M'.length = M.length
 o : ∀ i, i ≠ n → M'[i]? = M[i]?
theorem Dr.refl {n : Nat} {M : Mem} (h : Vt M n) : Dr n M M := ⟨h, rfl, fun _ _ => rfl⟩
theorem Dr.trans {n : Nat} {M M1 M2 : Mem} (h : Dr n M M1) (g : Dr n M1 M2) : Dr n M M2 := ⟨g.v, g.l.trans h.l, fun i hi => (g.o i hi).trans (h.o i hi)⟩
theorem get_set {M : Mem} {n : Nat} {x y : MO} (h : M[n]? = some y) : (M.set n x)[n]? = some x := List.getElem?_set_self (List.getElem?_eq_some_iff.mp h).1
theorem Dr.mk' {n : Nat} {M : Mem} {y : MO} {a b : Int} (h : M[n]? = some y) (h1 : 0 ≤ a) (h2 : a.natAbs.log2 ≤ 1100000) (h3 : 0 ≤ b) (h4 : b ≤ 2147483629) : Dr n M (M.set n (.lst [.int a, .int b])) :=
 ⟨⟨a, b, get_set h, h1, h2, h3, h4⟩, by simp, fun i hi => List.getElem?_set_ne (Ne.symm hi)⟩
theorem subz_r {M : Mem} {n : Nat} {xs : List D} {j : Int} (h : M[n]? = some (.lst xs)) : subz (.r n) (.d (.int j)) M = R.of ((L2.atI xs j).map Z.d) M := by
 simp only [subz, h, itemD]
theorem ix2_0 : L2.ixN 2 0 = some 0 := rfl
theorem ix2_1 : L2.ixN 2 1 = some 1 := rfl
theorem atI_mem {xs : List D} {u : Int} (h1 : 0 ≤ u) (h2 : u < xs.length) : ∃ x, L2.atI xs u = some x ∧ x ∈ xs := by
 have hu : u.toNat < xs.length := by omega
 refine ⟨xs[u.toNat], ?_, List.getElem_mem hu⟩
 unfold L2.atI L2.ixN
 rw [if_pos h1, if_pos h2]
 exact List.getElem?_eq_getElem hu
end Zt
namespace Zt
open PySem
structure Up (m : Nat) (M M' : Mem) : Prop where
 l : M.length ≤ M'.length
 o : ∀ i, i < m → M'[i]? = M[i]?
theorem Up.refl {m : Nat} {M : Mem} : Up m M M := ⟨Nat.le_refl _, fun _ _ => rfl⟩
theorem Up.trans {m : Nat} {M M1 M2 : Mem} (h : Up m M M1) (g : Up m M1 M2) : Up m M M2 := ⟨Nat.le_trans h.l g.l, fun i hi => (g.o i hi).trans (h.o i hi)⟩
theorem Up.le {m n : Nat} {M M1 : Mem} (h : Up n M M1) (l : m ≤ n) : Up m M M1 := ⟨h.l, fun i hi => h.o i (by omega)⟩
theorem strOk_iff {x : Str} : PyData.strOk x = true ↔ ∀ c ∈ x.cps.toList, c < 1114112 := by
 unfold PyData.strOk
 rw [← Array.all_toList, List.all_eq_true]
 simp
theorem strOk_app {x y : Str} (h1 : PyData.strOk x = true) (h2 : PyData.strOk y = true) : PyData.strOk (x ++ y) = true := by
 rw [strOk_iff] at *
 intro c hc
 have e : (x ++ y).cps.toList = x.cps.toList ++ y.cps.toList := by
   show (x.cps ++ y.cps).toList = _
   simp
 rw [e, List.mem_append] at hc
 exact hc.elim (h1 c) (h2 c)
theorem rng_eq {n : Nat} : rngZ 0 (n : Int) = (List.range n).map fun (j : Nat) => Z.d (.int (j : Int)) := by
 simp [rngZ]
end Zt
namespace Lw
open PySem Zt
theorem putZ_0 {ρ : Zt.Env} {M : Mem} {n : Nat} {x y d : D} (h : M[n]? = some (.lst [x, y])) : putZ ρ M n (.int 0) d = .nx ρ (M.set n (.lst [d, y])) := by
 simp only [putZ, h]
 rfl
theorem putZ_1 {ρ : Zt.Env} {M : Mem} {n : Nat} {x y d : D} (h : M[n]? = some (.lst [x, y])) : putZ ρ M n (.int 1) d = .nx ρ (M.set n (.lst [x, d])) := by
 simp only [putZ, h]
 rfl
theorem f_under (k n : Nat) (m : Int) (M : Mem) (h : Vt M n) (h1 : 1 ≤ m) (h2 : m ≤ 1000000000) : ∃ u M', (LV (k + 1)).fn false i_law_under [.r n, .d (.int m)] M = .ok (.d (.int u)) M' ∧ 0 ≤ u ∧ u < m ∧ Dr n M M' := by
 obtain ⟨a, b, hM, a1, a2, b1, b2⟩ := h
 by_cases ha : 0 < a
 · refine ⟨a % m, M.set n (.lst [.int (a / m), .int b]), ?_, Int.emod_nonneg _ (by omega), Int.emod_lt_of_pos _ (by omega), Dr.mk' hM (Int.ediv_nonneg a1 (by omega)) (Nat.le_trans (log2_mono ?_) a2) b1 b2⟩
   · rw [s_law_under]
     simp (disch := first | omega | (simp only [slen]; omega) | (simp [flatD, okD_int, okD_lit]; done) | fail) [evE, evEs, evAnd, evOr, evT, evTA, evTO, evC, evO, evI, evS, evSs, zb_ok, zb_ex, zb_bad, zb_of, zb_no, zt_ok, zt_ex, zt_bad, zc_ok, zc_bad, zo_nx, zo_rt, zo_ex, zo_bad, zf_nx, zf_rt, zf_ex, gz_z, gz_s, slz_z, b_nm, setZ, asB_b, opz_dd, cpz_dd, dsOf_nil, dsOf_cons, biz_d, subz_dd, slz_dd, truthZ_d, boolZ_eq, isz, tyKnown, tyOk, cop, truth, itemD, slcD, bid, LV_hot, LB_hot, LV_gv, gv, Option.map_some, Option.bind_some, eqv_ls, eqv_sl, eqv_ii, eqv_snone, eqv_nones, eqv_sbool, eqv_bools, eqv_sint, eqv_ints, eqv_stuple, eqv_tuples, eqv_slist, eqv_lists, eqv_tt, eqv_LL, eqvA_nn, eqvA_nc, eqvA_cn, eqvA_xn, eqvA_cc, okD_int, okD_bool, okD_lit, okD_nilT, okD_nilL, ofString_inj, atI_0, atI_1, atI_2, atI_3, flatD, inD, zi_b, zi_o, zi_a, okD_T, llen, badd, bsub, bmod, bfdiv, bmul, d_law_under, subz_r hM, ha, putZ_0 hM, ix2_0, Bi.walks]
   · have := Int.ediv_le_self m a1
     have := Int.ediv_nonneg a1 (show (0 : Int) ≤ m by omega)
     omega
 · obtain ⟨b', hb'⟩ : ∃ b' : Int, b' = (b * 39373 + 101) % 2147483629 := ⟨_, rfl⟩
   have e1 : 0 ≤ b' := by rw [hb']; exact Int.emod_nonneg _ (by omega)
   have e2 : b' < 2147483629 := by rw [hb']; exact Int.emod_lt_of_pos _ (by omega)
   refine ⟨(b' * (b' / 5 + 9) % 2147483587 / 32) % m, M.set n (.lst [.int a, .int b']), ?_, Int.emod_nonneg _ (by omega), Int.emod_lt_of_pos _ (by omega), Dr.mk' hM a1 a2 e1 (by omega)⟩
   · rw [s_law_under]
     have hN : (M.set n (.lst [.int a, .int b']))[n]? = some (.lst [.int a, .int b']) := get_set hM
     have e3 : bop .mul (.int b) (.int 39373) = some (.int (b * 39373)) := bmul (by omega) (by omega) (by omega) (by omega)
     have e4 : bop .mul (.int b') (.int (b' / 5 + 9)) = some (.int (b' * (b' / 5 + 9))) := bmul (by omega) (by omega) (by omega) (by omega)
     simp (disch := first | omega | (simp only [slen]; omega) | (simp [flatD, okD_int, okD_lit]; done) | fail) [evE, evEs, evAnd, evOr, evT, evTA, evTO, evC, evO, evI, evS, evSs, zb_ok, zb_ex, zb_bad, zb_of, zb_no, zt_ok, zt_ex, zt_bad, zc_ok, zc_bad, zo_nx, zo_rt, zo_ex, zo_bad, zf_nx, zf_rt, zf_ex, gz_z, gz_s, slz_z, b_nm, setZ, asB_b, opz_dd, cpz_dd, dsOf_nil, dsOf_cons, biz_d, subz_dd, slz_dd, truthZ_d, boolZ_eq, isz, tyKnown, tyOk, cop, truth, itemD, slcD, bid, LV_hot, LB_hot, LV_gv, gv, Option.map_some, Option.bind_some, eqv_ls, eqv_sl, eqv_ii, eqv_snone, eqv_nones, eqv_sbool, eqv_bools, eqv_sint, eqv_ints, eqv_stuple, eqv_tuples, eqv_slist, eqv_lists, eqv_tt, eqv_LL, eqvA_nn, eqvA_nc, eqvA_cn, eqvA_xn, eqvA_cc, okD_int, okD_bool, okD_lit, okD_nilT, okD_nilL, ofString_inj, atI_0, atI_1, atI_2, atI_3, flatD, inD, zi_b, zi_o, zi_a, okD_T, llen, badd, bsub, bmod, bfdiv, bmul, d_law_under, subz_r hM, ha, putZ_1 hM, ix2_1, Bi.walks, e3, ← hb', subz_r hN, e4]
theorem f_vat (k : Nat) (ns : List Int) (j : Nat) (M : Mem) (hj : j ≤ 1000) (hz : ∀ z ∈ ns, Builtin.Int.intBits z ≤ 1048576) : ∃ M', (LV (k + 1)).fnW false i_law_vat (.scr ns) [.d (.int j)] M = .ok (.r M.length) M' ∧ Vt M' M.length ∧ M'.length = M.length + 1 ∧ ∀ i, i < M.length → M'[i]? = M[i]? := by
 have key : ∃ a b : Int, (LV (k + 1)).fnW false i_law_vat (.scr ns) [.d (.int j)] M = .ok (.r M.length) (M ++ [.lst [.int a, .int b]]) ∧ 0 ≤ a ∧ a.natAbs.log2 ≤ 1100000 ∧ 0 ≤ b ∧ b ≤ 2147483629 := by
   have p1 : bop .pow (.int 10) (.int 18) = some (.int 1000000000000000000) := by rfl
   have m1 : bop .mul (.int 7919) (.int (j : Int)) = some (.int (7919 * (j : Int))) := bmul (by omega) (by omega) (by omega) (by omega)
   have m2 : bop .mul (.int 8191) (.int (j : Int)) = some (.int (8191 * (j : Int))) := bmul (by omega) (by omega) (by omega) (by omega)
   have fin : ∀ c : Int, 0 ≤ c → c.natAbs.log2 ≤ 1100000 → 0 ≤ (if 1000000000000000000 ≤ c then c else 0) ∧ (if 1000000000000000000 ≤ c then c else 0).natAbs.log2 ≤ 1100000 ∧ 0 ≤ (c * 131071 + 8191 * (j : Int) + 5) % 2147483629 + 1 ∧ (c * 131071 + 8191 * (j : Int) + 5) % 2147483629 + 1 ≤ 2147483629 := fun c h1 h2 => by
     have q1 := Int.emod_nonneg (c * 131071 + 8191 * (j : Int) + 5) (show (2147483629 : Int) ≠ 0 by omega)
     have q2 := Int.emod_lt_of_pos (c * 131071 + 8191 * (j : Int) + 5) (show (0 : Int) < 2147483629 by omega)
     refine ⟨?_, ?_, by omega, by omega⟩
     · split <;> omega
     · split
       · exact h2
       · decide
   by_cases hn : j < ns.length
   · have hi : L2.atI ns (j : Int) = some ns[j] := by
       unfold L2.atI L2.ixN
       rw [if_pos (by omega), if_pos (by omega)]
       simp [List.getElem?_eq_getElem hn]
     obtain ⟨c, hc⟩ : ∃ c : Int, c = if ns[j] < 0 then -ns[j] else ns[j] := ⟨_, rfl⟩
     have hb := hz ns[j] (List.getElem_mem hn)
     have c1 : 0 ≤ c := by rw [hc]; split <;> omega
     have c2 : c.natAbs = ns[j].natAbs := by rw [hc]; split <;> omega
     have c3 : c.natAbs.log2 ≤ 1100000 := by
       rw [c2]
       unfold Builtin.Int.intBits at hb
       have : ns[j].natAbs.log2 ≤ ns[j].natAbs.log2 + 1 := by omega
       by_cases z : ns[j] = 0
       · rw [z]; decide
       · simp [z] at hb
         omega
     have m3 : bop .mul (.int c) (.int 131071) = some (.int (c * 131071)) := bmulL (by omega) (by omega) (by omega)
     refine ⟨_, _, ?_, fin c c1 c3⟩
     rw [s_law_vat]
     by_cases g : 1000000000000000000 ≤ c
     · simp (disch := first | omega | (simp only [slen]; omega) | (simp [flatD, okD_int, okD_lit]; done) | fail) [evE, evEs, evAnd, evOr, evT, evTA, evTO, evC, evO, evI, evS, evSs, zb_ok, zb_ex, zb_bad, zb_of, zb_no, zt_ok, zt_ex, zt_bad, zc_ok, zc_bad, zo_nx, zo_rt, zo_ex, zo_bad, zf_nx, zf_rt, zf_ex, gz_z, gz_s, slz_z, b_nm, setZ, asB_b, opz_dd, cpz_dd, dsOf_nil, dsOf_cons, biz_d, subz_dd, slz_dd, truthZ_d, boolZ_eq, isz, tyKnown, tyOk, cop, truth, itemD, slcD, bid, LV_hot, LB_hot, LV_gv, gv, Option.map_some, Option.bind_some, eqv_ls, eqv_sl, eqv_ii, eqv_snone, eqv_nones, eqv_sbool, eqv_bools, eqv_sint, eqv_ints, eqv_stuple, eqv_tuples, eqv_slist, eqv_lists, eqv_tt, eqv_LL, eqvA_nn, eqvA_nc, eqvA_cn, eqvA_xn, eqvA_cc, okD_int, okD_bool, okD_lit, okD_nilT, okD_nilL, ofString_inj, atI_0, atI_1, atI_2, atI_3, flatD, inD, zi_b, zi_o, zi_a, okD_T, llen, badd, bsub, bmod, bfdiv, bmul, d_law_vat, hn, m1, m2, m3, p1, Bi.walks, hi, ← hc, g]
     · simp (disch := first | omega | (simp only [slen]; omega) | (simp [flatD, okD_int, okD_lit]; done) | fail) [evE, evEs, evAnd, evOr, evT, evTA, evTO, evC, evO, evI, evS, evSs, zb_ok, zb_ex, zb_bad, zb_of, zb_no, zt_ok, zt_ex, zt_bad, zc_ok, zc_bad, zo_nx, zo_rt, zo_ex, zo_bad, zf_nx, zf_rt, zf_ex, gz_z, gz_s, slz_z, b_nm, setZ, asB_b, opz_dd, cpz_dd, dsOf_nil, dsOf_cons, biz_d, subz_dd, slz_dd, truthZ_d, boolZ_eq, isz, tyKnown, tyOk, cop, truth, itemD, slcD, bid, LV_hot, LB_hot, LV_gv, gv, Option.map_some, Option.bind_some, eqv_ls, eqv_sl, eqv_ii, eqv_snone, eqv_nones, eqv_sbool, eqv_bools, eqv_sint, eqv_ints, eqv_stuple, eqv_tuples, eqv_slist, eqv_lists, eqv_tt, eqv_LL, eqvA_nn, eqvA_nc, eqvA_cn, eqvA_xn, eqvA_cc, okD_int, okD_bool, okD_lit, okD_nilT, okD_nilL, ofString_inj, atI_0, atI_1, atI_2, atI_3, flatD, inD, zi_b, zi_o, zi_a, okD_T, llen, badd, bsub, bmod, bfdiv, bmul, d_law_vat, hn, m1, m2, m3, p1, Bi.walks, hi, ← hc, g]
   · obtain ⟨c, hc⟩ : ∃ c : Int, c = 7919 * (j : Int) + 43 := ⟨_, rfl⟩
     have c3 : c.natAbs.log2 ≤ 1100000 := by
       have : c.natAbs.log2 < 40 := log2_of (by omega) (by omega)
       omega
     have m3 : bop .mul (.int c) (.int 131071) = some (.int (c * 131071)) := bmulL (by omega) (by omega) (by omega)
     refine ⟨_, _, ?_, fin c (by omega) c3⟩
     rw [s_law_vat]
     by_cases g : 1000000000000000000 ≤ c
     · omega
     · simp (disch := first | omega | (simp only [slen]; omega) | (simp [flatD, okD_int, okD_lit]; done) | fail) [evE, evEs, evAnd, evOr, evT, evTA, evTO, evC, evO, evI, evS, evSs, zb_ok, zb_ex, zb_bad, zb_of, zb_no, zt_ok, zt_ex, zt_bad, zc_ok, zc_bad, zo_nx, zo_rt, zo_ex, zo_bad, zf_nx, zf_rt, zf_ex, gz_z, gz_s, slz_z, b_nm, setZ, asB_b, opz_dd, cpz_dd, dsOf_nil, dsOf_cons, biz_d, subz_dd, slz_dd, truthZ_d, boolZ_eq, isz, tyKnown, tyOk, cop, truth, itemD, slcD, bid, LV_hot, LB_hot, LV_gv, gv, Option.map_some, Option.bind_some, eqv_ls, eqv_sl, eqv_ii, eqv_snone, eqv_nones, eqv_sbool, eqv_bools, eqv_sint, eqv_ints, eqv_stuple, eqv_tuples, eqv_slist, eqv_lists, eqv_tt, eqv_LL, eqvA_nn, eqvA_nc, eqvA_cn, eqvA_xn, eqvA_cc, okD_int, okD_bool, okD_lit, okD_nilT, okD_nilL, ofString_inj, atI_0, atI_1, atI_2, atI_3, flatD, inD, zi_b, zi_o, zi_a, okD_T, llen, badd, bsub, bmod, bfdiv, bmul, d_law_vat, hn, m1, m2, m3, p1, Bi.walks, ← hc, g]
 obtain ⟨a, b, e, h1, h2, h3, h4⟩ := key
 refine ⟨_, e, ⟨a, b, by simp, h1, h2, h3, h4⟩, by simp, fun i hi => ?_⟩
 rw [List.getElem?_append_left hi]
theorem f_some (k n : Nat) (xs : List D) (M : Mem) (h : Vt M n) (h1 : 1 ≤ xs.length) (h2 : xs.length ≤ 1000) : ∃ x M', (LV (k + 2)).fn false i_law_some [.r n, .d (.list xs)] M = .ok (.d x) M' ∧ x ∈ xs ∧ Dr n M M' := by
 obtain ⟨u, M', e, u1, u2, d⟩ := f_under k n (xs.length : Int) M h (by omega) (by omega)
 obtain ⟨x, hx, hm⟩ := atI_mem u1 u2
 refine ⟨x, M', ?_, hm, d⟩
 rw [s_law_some]
 simp (disch := first | omega | (simp only [slen]; omega) | (simp [flatD, okD_int, okD_lit]; done) | fail) [evE, evEs, evAnd, evOr, evT, evTA, evTO, evC, evO, evI, evS, evSs, zb_ok, zb_ex, zb_bad, zb_of, zb_no, zt_ok, zt_ex, zt_bad, zc_ok, zc_bad, zo_nx, zo_rt, zo_ex, zo_bad, zf_nx, zf_rt, zf_ex, gz_z, gz_s, slz_z, b_nm, setZ, asB_b, opz_dd, cpz_dd, dsOf_nil, dsOf_cons, biz_d, subz_dd, slz_dd, truthZ_d, boolZ_eq, isz, tyKnown, tyOk, cop, truth, itemD, slcD, bid, LV_hot, LB_hot, LV_gv, gv, Option.map_some, Option.bind_some, eqv_ls, eqv_sl, eqv_ii, eqv_snone, eqv_nones, eqv_sbool, eqv_bools, eqv_sint, eqv_ints, eqv_stuple, eqv_tuples, eqv_slist, eqv_lists, eqv_tt, eqv_LL, eqvA_nn, eqvA_nc, eqvA_cn, eqvA_xn, eqvA_cc, okD_int, okD_bool, okD_lit, okD_nilT, okD_nilL, ofString_inj, atI_0, atI_1, atI_2, atI_3, flatD, inD, zi_b, zi_o, zi_a, okD_T, llen, badd, bsub, bmod, bfdiv, bmul, d_law_some, Bi.walks, e, hx]
end Lw
namespace Zt
open PySem
theorem cps_app {a b : Str} : (a ++ b).cps.toList = a.cps.toList ++ b.cps.toList := by
 show (a.cps ++ b.cps).toList = _
 simp
def StD (x : D) : Prop := dOk 3 x ∧ (itT x).length ≤ 500001 ∧ ∀ b ∈ itT x, (itT b).length ≤ 500001
structure StOk (n : Nat) (f : List D) (o : Option (List D)) (bs : List (List D)) : Prop where
 f : ∀ x ∈ f, StD x
 b : ∀ b ∈ bs, ∀ x ∈ b, dOk 1 x
 o : ∀ q, o = some q → dOk 1 (.tuple q)
end Zt
namespace Zt
open PySem
structure TxOk (n : Nat) (x : Str) : Prop where
 ok : PyData.strOk x = true
 l : x.length ≤ n
theorem TxOk.le {m n : Nat} {x : Str} (h : TxOk m x) (l : m ≤ n) : TxOk n x := ⟨h.ok, Nat.le_trans h.l l⟩
def asc (x : Str) : Bool := x.cps.all (· < 128)
theorem asc_iff {x : Str} : asc x = true ↔ ∀ c ∈ x.cps.toList, c < 128 := by
 unfold asc
 rw [← Array.all_toList, List.all_eq_true]
 simp only [decide_eq_true_eq]
end Zt
namespace Zt
open PySem
def L6 : List Nat := [97, 98, 99, 65, 66, 67]
def flp (c : Nat) : Nat := if c < 97 then c + 32 else c - 32
theorem l6_ok : L6.all (fun c => Txt.contains "abcABC" ⟨#[c]⟩ && (L6.contains (flp c)) && decide (flp (flp c) = c) && decide ((if Unicode.isUpper c then Unicode.lowerOf c else if Unicode.isLower c then Unicode.upperOf c else [c]) = [flp c]) && decide (c ≠ 0x3A3)) = true := by decide +kernel
def oneS (c : Nat) : Str := ⟨#[c]⟩
def Bt (n : Nat) : Nat → D → Prop
 | 0, _ => False
 | j + 1, d => match d with
   | .none => True
   | .bool _ => True
   | .int i => i.natAbs < 10 ^ (40 + n)
   | .str s => PyData.strOk s = true ∧ asc s = true ∧ s.length ≤ 60 + n
   | .tuple xs => xs.length ≤ 20 + n ∧ ∀ x ∈ xs, Bt n j x
   | .list xs => xs.length ≤ 20 + n ∧ ∀ x ∈ xs, Bt n j x
   | .dict _ => False
theorem Bt.dOk {n : Nat} : ∀ {j : Nat} {d : D}, Bt n j d → dOk j d
 | 0, _, h => h.elim
 | j + 1, .none, _ => dOk_none
 | j + 1, .bool _, _ => dOk_bool
 | j + 1, .int _, _ => dOk_int
 | j + 1, .str _, h => dOk_str.mpr h.1
 | j + 1, .tuple _, h => dOk_tuple.mpr fun x hx => Bt.dOk (h.2 x hx)
 | j + 1, .list _, h => dOk_list.mpr fun x hx => Bt.dOk (h.2 x hx)
theorem Bt.ok {n j : Nat} {d : D} (h : Bt n j d) (hj : j ≤ 60) : okD d = true := okD_iff.mpr (dOk_mono h.dOk (by omega))
theorem Bt.mono {n n' : Nat} (hn : n ≤ n') : ∀ {j j' : Nat} {d : D}, j ≤ j' → Bt n j d → Bt n' j' d
 | 0, _, _, _, h => h.elim
 | j + 1, 0, _, hj, _ => absurd hj (by omega)
 | j + 1, j' + 1, .none, _, _ => trivial
 | j + 1, j' + 1, .bool _, _, _ => trivial
 | j + 1, j' + 1, .int i, _, h => by
   have h : i.natAbs < 10 ^ (40 + n) := h
   show i.natAbs < 10 ^ (40 + n')
   exact Nat.lt_of_lt_of_le h (Nat.pow_le_pow_right (by omega) (by omega))
 | j + 1, j' + 1, .str s, _, h => ⟨h.1, h.2.1, by have := h.2.2; omega⟩
 | j + 1, j' + 1, .tuple xs, hj, h => ⟨by have := h.1; omega, fun x hx => Bt.mono hn (by omega) (h.2 x hx)⟩
 | j + 1, j' + 1, .list xs, hj, h => ⟨by have := h.1; omega, fun x hx => Bt.mono hn (by omega) (h.2 x hx)⟩
theorem Bt.len {n j : Nat} {d : D} (h : Bt n j d) : (itT d).length ≤ 20 + n := by
 cases j with
 | zero => exact h.elim
 | succ j => cases d <;> first | exact h.1 | simp [itT]
theorem Bt.sub {n j : Nat} {d x : D} (h : Bt n j d) (hx : x ∈ itT d) : Bt n j x := by
 cases j with
 | zero => exact h.elim
 | succ j => cases d <;> first | exact Bt.mono (Nat.le_refl n) (Nat.le_succ j) (h.2 x hx) | simp [itT] at hx
theorem Bt.str {n j : Nat} {s : Str} (h : Bt n j (.str s)) : PyData.strOk s = true ∧ asc s = true ∧ s.length ≤ 60 + n := by
 cases j with
 | zero => exact h.elim
 | succ j => exact h
theorem app_ok {x y : Str} (h1 : PyData.strOk x = true ∧ asc x = true) (h2 : PyData.strOk y = true ∧ asc y = true) : PyData.strOk (x ++ y) = true ∧ asc (x ++ y) = true := by
 refine ⟨strOk_app h1.1 h2.1, asc_iff.mpr fun c hc => ?_⟩
 rw [cps_app] at hc
 rcases List.mem_append.mp hc with q | q
 · exact asc_iff.mp h1.2 c q
 · exact asc_iff.mp h2.2 c q
end Zt
namespace Zt
open PySem
abbrev Rw := List Nat
def mkS (l : Rw) : Str := ⟨l.toArray⟩
structure Std where
 r : Rw
 p : Rw
 q : Rw
 deriving DecidableEq
def Std.sd (s : Std) (b : Bool) : Rw := if b then s.p else s.q
def Std.put (s : Std) (r : Rw) (b : Bool) (l : Rw) : Std := if b then ⟨r, l, s.q⟩ else ⟨r, s.p, l⟩
def Std.d (s : Std) : D := .tuple [.str (mkS s.r), .str (mkS s.p), .str (mkS s.q)]
def sdS (b : Bool) : Str := if b then "p" else "q"
def tk (b : Bool) : Nat := if b then 112 else 113
inductive Cmd where
 | pull (b : Bool) (m : Nat)
 | push (b : Bool) (m : Nat)
 | fill (b : Bool)
 | turn
inductive Cnd where
 | fits (b : Bool) (m : Nat)
 | turns
 | some (b : Bool)
 | rake (m : Nat)
 | head (b : Bool) (k : Nat)
 | tail (k : Nat)
def Cmd.d : Cmd → D
 | .pull b m => .tuple [.str "pull", .str (sdS b), .int (m : Int)]
 | .push b m => .tuple [.str "push", .str (sdS b), .int (m : Int)]
 | .fill b => .tuple [.str "fill", .str (sdS b)]
 | .turn => .tuple [.str "turn"]
def Cnd.d : Cnd → D
 | .fits b m => .tuple [.str "fits", .str (sdS b), .int (m : Int)]
 | .turns => .tuple [.str "turns"]
 | .some b => .tuple [.str "some", .str (sdS b)]
 | .rake m => .tuple [.str "rake", .int (m : Int)]
 | .head b k => .tuple [.str "head", .str (sdS b), .str (oneS k)]
 | .tail k => .tuple [.str "tail", .str (oneS k)]
def m8 : List Nat := [1, 2, 3, 4, 5, 6, 7, 8]
def Cmd.ok : Cmd → Bool
 | .pull _ m => decide (1 ≤ m) && decide (m ≤ 8)
 | .push _ m => decide (1 ≤ m) && decide (m ≤ 8)
 | _ => true
def Cnd.ok : Cnd → Bool
 | .fits _ m => decide (1 ≤ m) && decide (m ≤ 8)
 | .rake m => decide (1 ≤ m) && decide (m ≤ 8)
 | .head _ k => decide (97 ≤ k) && decide (k ≤ 99)
 | .tail k => decide (97 ≤ k) && decide (k ≤ 99)
 | _ => true
inductive Stp where
 | one (c : Cmd)
 | ite (n : Cnd) (a b : List Cmd)
 | whl (n : Cnd) (a : List Cmd)
def Stp.d : Stp → D
 | .one c => c.d
 | .ite n a b => .tuple [.str "if", n.d, .tuple (a.map Cmd.d), .tuple (b.map Cmd.d)]
 | .whl n a => .tuple [.str "while", n.d, .tuple (a.map Cmd.d)]
structure Stp.Ok (s : Stp) : Prop where
 o : match s with
   | .one c => c.ok = true
   | .ite n a b => n.ok = true ∧ (∀ c ∈ a, c.ok = true) ∧ (∀ c ∈ b, c.ok = true) ∧ a.length ≤ 3 ∧ b.length ≤ 3
   | .whl n a => n.ok = true ∧ (∀ c ∈ a, c.ok = true) ∧ a.length ≤ 3
def lastN (l : Rw) (m : Nat) : Rw := l.drop (l.length - m)
section
variable (F : Rw → Nat → Bool)
def pullS (s : Std) (b : Bool) (m : Nat) : Std := s.put (s.r ++ (s.sd b).take m) b ((s.sd b).drop m)
def pushS (s : Std) (b : Bool) (m : Nat) : Std := s.put (s.r.take (s.r.length - m)) b (lastN s.r m ++ s.sd b)
def turnS (s : Std) : Std := ⟨s.r.reverse.map flp, s.p, s.q⟩
end
theorem mk_ok {l : Rw} (h : ∀ c ∈ l, c ∈ L6) : PyData.strOk (mkS l) = true := strOk_iff.mpr fun c hc => by
 have := h c hc
 simp [L6] at this
 omega
structure Gs (s : Std) : Prop where
 r : ∀ c ∈ s.r, c ∈ L6
 p : ∀ c ∈ s.p, c ∈ L6
 q : ∀ c ∈ s.q, c ∈ L6
 l : s.r.length + s.p.length + s.q.length ≤ 8
theorem Gs.sd {s : Std} (h : Gs s) (b : Bool) : (∀ c ∈ s.sd b, c ∈ L6) ∧ s.r.length + (s.sd b).length ≤ 8 := by
 have := h.l
 cases b
 · exact ⟨h.q, by show s.r.length + s.q.length ≤ 8; omega⟩
 · exact ⟨h.p, by show s.r.length + s.p.length ≤ 8; omega⟩
theorem Gs.put {s : Std} (h : Gs s) {r l : Rw} {b : Bool} (hr : ∀ c ∈ r, c ∈ L6) (hl : ∀ c ∈ l, c ∈ L6) (e : r.length + l.length = s.r.length + (s.sd b).length) : Gs (s.put r b l) := by
 have := h.l
 cases b
 · exact ⟨hr, h.p, hl, by show r.length + s.p.length + l.length ≤ 8; have : r.length + l.length = s.r.length + s.q.length := e; omega⟩
 · exact ⟨hr, hl, h.q, by show r.length + l.length + s.q.length ≤ 8; have : r.length + l.length = s.r.length + s.p.length := e; omega⟩
theorem last_len {l : Rw} {m : Nat} : (lastN l m).length = min m l.length := by
 unfold lastN
 rw [List.length_drop]
 omega
theorem Gs.pull {s : Std} (h : Gs s) (b : Bool) (m : Nat) : Gs (pullS s b m) := by
 obtain ⟨h1, _⟩ := h.sd b
 refine h.put (fun c hc => ?_) (fun c hc => h1 c (List.mem_of_mem_drop hc)) (by rw [List.length_append, List.length_take, List.length_drop]; omega)
 rcases List.mem_append.mp hc with z | z
 · exact h.r c z
 · exact h1 c (List.mem_of_mem_take z)
theorem Gs.push {s : Std} (h : Gs s) (b : Bool) (m : Nat) : Gs (pushS s b m) := by
 obtain ⟨h1, _⟩ := h.sd b
 refine h.put (fun c hc => h.r c (List.mem_of_mem_take hc)) (fun c hc => ?_) (by rw [List.length_append, List.length_take, last_len]; omega)
 rcases List.mem_append.mp hc with z | z
 · exact h.r c (List.mem_of_mem_drop z)
 · exact h1 c z
theorem flp_l6 {c : Nat} (h : c ∈ L6) : flp c ∈ L6 := by
 have := List.all_eq_true.mp l6_ok c h
 simp only [Bool.and_eq_true] at this
 simpa using this.1.1.1.2
theorem Gs.turn {s : Std} (h : Gs s) : Gs (turnS s) := by
 refine ⟨fun c hc => ?_, h.p, h.q, by have := h.l; simpa [turnS] using this⟩
 obtain ⟨d, hd, rfl⟩ := List.mem_map.mp (show c ∈ s.r.reverse.map flp from hc)
 exact flp_l6 (h.r d (List.mem_reverse.mp hd))
theorem Gs.ok {s : Std} (h : Gs s) : okD s.d = true := okD_iff.mpr (dOk_mono (n := 1) (dOk_tuple.mpr fun x hx => by
 simp only [List.mem_cons, List.mem_nil_iff, or_false] at hx
 rcases hx with rfl | rfl | rfl
 · exact dOk_str.mpr (mk_ok h.r)
 · exact dOk_str.mpr (mk_ok h.p)
 · exact dOk_str.mpr (mk_ok h.q)) (by omega))
end Zt
namespace Zt
open PySem
theorem lcG {α : Type} {cond : Env → Mem → R Bool} {elt : Env → Mem → R Z} {tg : Tg} {ρ : Env} {M : Mem} (g : α → Z) (c : α → Bool) (f : α → D) : ∀ xs : List α, (∀ x ∈ xs, ∃ ρ', bindT tg ρ (g x) = some ρ' ∧ cond ρ' M = .ok (c x) M ∧ (c x = true → elt ρ' M = .ok (.d (f x)) M)) →
   lcL cond elt tg ρ (xs.map g) M = .ok ((xs.filter c).map f) M
 | [], _ => rfl
 | x :: xs, h => by
   have ih := lcG g c f xs fun y hy => h y (List.mem_cons_of_mem _ hy)
   obtain ⟨ρ', h1, h2, h3⟩ := h x (List.mem_cons_self ..)
   rw [List.map_cons]
   unfold lcL
   rw [h1]
   dsimp only
   rw [h2, zb_ok]
   cases hp : c x
   · rw [if_neg (by simp), List.filter_cons, hp]
     exact ih
   · rw [if_pos rfl, h3 hp, zb_ok, List.filter_cons, hp]
     dsimp only
     rw [ih, zb_ok]
     rfl
theorem lcM {α : Type} {elt : Env → Mem → R Z} {tg : Tg} {ρ : Env} {M : Mem} (g : α → Z) (f : α → D) (xs : List α) (h : ∀ x ∈ xs, ∃ ρ', bindT tg ρ (g x) = some ρ' ∧ elt ρ' M = .ok (.d (f x)) M) :
   lcL (fun _ M' => .ok true M') elt tg ρ (xs.map g) M = .ok (xs.map f) M := by
 have := lcG (cond := fun _ M' => .ok true M') (elt := elt) (tg := tg) (ρ := ρ) (M := M) g (fun _ => true) f xs fun x hx => by
   obtain ⟨ρ', h1, h2⟩ := h x hx
   exact ⟨ρ', h1, rfl, fun _ => h2⟩
 rw [this, List.filter_eq_self.mpr fun _ _ => rfl]
theorem ceq_i {a b : Int} : cop .eq (.int a) (.int b) = some (decide (a = b)) := by
 show (if okD (.int a) && okD (.int b) then some (PyData.eqv (.int a) (.int b)) else none) = _
 rw [okD_int, okD_int, eqv_ii]
 rfl
theorem cne_i {a b : Int} : cop .ne (.int a) (.int b) = some (!decide (a = b)) := by
 show (if okD (.int a) && okD (.int b) then some (!PyData.eqv (.int a) (.int b)) else none) = _
 rw [okD_int, okD_int, eqv_ii]
 rfl
theorem clt_i {a b : Int} : cop .lt (.int a) (.int b) = some (decide (a < b)) := rfl
theorem cgt_i {a b : Int} : cop .gt (.int a) (.int b) = some (decide (b < a)) := rfl
theorem cge_i {a b : Int} : cop .ge (.int a) (.int b) = some (decide (b ≤ a)) := rfl
theorem cne_d {a b : D} (ha : okD a = true) (hb : okD b = true) : cop .ne a b = some (!PyData.eqv a b) := by
 show (if okD a && okD b then some (!PyData.eqv a b) else none) = _
 rw [ha, hb]
 rfl
end Zt
namespace Lw
open PySem Zt
def nthS : Nat → Ss → S
 | _, .nil => .never
 | 0, .cons s _ => s
 | n + 1, .cons _ r => nthS n r
abbrev wordsS : Str := "stand row script facts fact lengths place number seen index impossible endless undo many text"
def errs (y : Str) (u : D) : List D := [erD 1 y, erD 2 y, erD 3 y, erD 4 y, erD 5 y, erD 6 y, erD 7 y, erD 8 y, erD 9 y, erD 10 y, erD 11 y, erD 12 y, erD 13 y, erI 14 "limit" u, erI 15 "line" u]
abbrev texts3 : List D := [.str "", .str "no script", .str "a b c"]
def mids : Ss := match b_law_2 with
 | .cons _ (.cons _ (.cons a (.cons b (.cons c (.cons d (.cons e (.cons f (.cons g _)))))))) => .cons a (.cons b (.cons c (.cons d (.cons e (.cons f (.cons g .nil))))))
 | _ => .nil
theorem mid_0 (z0 s3 s4 s7 s8 : Sl) (j u : D) (M : Mem) : ∃ t7 t8, evSs (LV 7) mids [z0, .z (.d (.str wordsS)), .z (.d j), s3, s4, .z (.d (.str "")), .z (.d u), s7, s8] M = .nx [z0, .z (.d (.str wordsS)), .z (.d j), s3, .z (.d (.list (errs "" u))), .z (.d (.str "")), .z (.d u), t7, t8] M := ⟨.z (.d (erI 15 "line" u)), .z (.d (.str "text")), by kernel_rfl⟩
theorem mid_1 (z0 s3 s4 s7 s8 : Sl) (j u : D) (M : Mem) : ∃ t7 t8, evSs (LV 7) mids [z0, .z (.d (.str wordsS)), .z (.d j), s3, s4, .z (.d (.str "no script")), .z (.d u), s7, s8] M = .nx [z0, .z (.d (.str wordsS)), .z (.d j), s3, .z (.d (.list (errs "no script" u))), .z (.d (.str "no script")), .z (.d u), t7, t8] M := ⟨.z (.d (erI 15 "line" u)), .z (.d (.str "text")), by kernel_rfl⟩
theorem mid_2 (z0 s3 s4 s7 s8 : Sl) (j u : D) (M : Mem) : ∃ t7 t8, evSs (LV 7) mids [z0, .z (.d (.str wordsS)), .z (.d j), s3, s4, .z (.d (.str "a b c")), .z (.d u), s7, s8] M = .nx [z0, .z (.d (.str wordsS)), .z (.d j), s3, .z (.d (.list (errs "a b c" u))), .z (.d (.str "a b c")), .z (.d u), t7, t8] M := ⟨.z (.d (erI 15 "line" u)), .z (.d (.str "text")), by kernel_rfl⟩
theorem flds (y : Str) (u j : D) (z0 s1 s2 s3 s7 s8 : Sl) (z5 : D) (M : Mem) : evE (LV 7) (.lst (.cons (.atx (.sub (.v 4) (.ki 13)) "limit") (.cons (.atx (.sub (.v 4) (.ki 14)) "line") .nil))) [z0, s1, s2, s3, .z (.d (.list (errs y u))), .z (.d z5), .z (.d u), s7, s8] M = .ok (.d (.list [u, u])) M := by kernel_rfl
theorem two_ne (u : Int) : cop .ne (.list [.int u, .int u]) (.list [.int u, .int u]) = some false := by
 have o : okD (.list [.int u, .int u]) = true := okD_iff.mpr (dOk_mono (n := 1) (dOk_list.mpr fun d hd => by
   simp only [List.mem_cons, List.not_mem_nil, or_false, or_self] at hd
   subst hd
   exact dOk_int) (by omega))
 rw [cne_d o o]
 simp [PyData.eqv, PyData.eqvAll]
def lastS : S := match b_law_2 with
 | .cons _ (.cons _ (.cons _ (.cons _ (.cons _ (.cons _ (.cons _ (.cons _ (.cons _ (.cons s _))))))))) => s
 | _ => .never
theorem last_ok (y : Str) (u : Int) (z0 s1 s2 s3 s7 s8 : Sl) (M : Mem) : evS (LV 7) lastS [z0, s1, s2, s3, .z (.d (.list (errs y (.int u)))), .z (.d (.str y)), .z (.d (.int u)), s7, s8] M = .nx [z0, s1, s2, s3, .z (.d (.list (errs y (.int u)))), .z (.d (.str y)), .z (.d (.int u)), s7, s8] M := by
 have e1 : evE (LV 7) (.call 3 (.cons (.mkx 0 (.v 5)) .nil)) [z0, s1, s2, s3, .z (.d (.list (errs y (.int u)))), .z (.d (.str y)), .z (.d (.int u)), s7, s8] M = .ok (.d (.str "value")) M := by kernel_rfl
 have e2 := flds y (.int u) .none z0 s1 s2 s3 s7 s8 (.str y) M
 have e3 : evE (LV 7) (.lst (.cons (.v 6) (.cons (.v 6) .nil))) [z0, s1, s2, s3, .z (.d (.list (errs y (.int u)))), .z (.d (.str y)), .z (.d (.int u)), s7, s8] M = .ok (.d (.list [.int u, .int u])) M := by kernel_rfl
 have c1 : ∀ x, cpz .ne (.d (.str "value")) (.d (.str "value")) x = .ok false x := fun x => by kernel_rfl
 have c2 : ∀ x, cpz .ne (.d (.list [.int u, .int u])) (.d (.list [.int u, .int u])) x = .ok false x := fun x => by
   show R.of (cop .ne (.list [.int u, .int u]) (.list [.int u, .int u])) x = _
   rw [two_ne]
   rfl
 generalize hρ : [z0, s1, s2, s3, Sl.z (.d (.list (errs y (.int u)))), .z (.d (.str y)), .z (.d (.int u)), s7, s8] = ρ at *
 show evS (LV 7) (.ifs (.or (.cons (.cmp .ne (.call 3 (.cons (.mkx 0 (.v 5)) .nil)) (.ks "value")) (.cons (.cmp .ne (.lst (.cons (.atx (.sub (.v 4) (.ki 13)) "limit") (.cons (.atx (.sub (.v 4) (.ki 14)) "line") .nil))) (.lst (.cons (.v 6) (.cons (.v 6) .nil)))) .nil))) (.cons (.ret (.kb false)) .nil) .nil) ρ M = _
 have tt : evT (LV 7) (.or (.cons (.cmp .ne (.call 3 (.cons (.mkx 0 (.v 5)) .nil)) (.ks "value")) (.cons (.cmp .ne (.lst (.cons (.atx (.sub (.v 4) (.ki 13)) "limit") (.cons (.atx (.sub (.v 4) (.ki 14)) "line") .nil))) (.lst (.cons (.v 6) (.cons (.v 6) .nil)))) .nil))) ρ M = .ok false M := by
   rw [evT, evTO, evT, e1, zb_ok, evE, zb_ok, c1, zb_ok, if_neg Bool.false_ne_true, evTO, evT, e2, zb_ok, e3, zb_ok, c2, zb_ok, if_neg Bool.false_ne_true, evTO]
 rw [evS, tt]
 rfl
theorem law_turn (j : Nat) (ns : List Int) (hz : ∀ z ∈ ns, Builtin.Int.intBits z ≤ 1048576) (hj : j ≤ 1000) (s3 s4 s5 s6 s7 s8 : Sl) (M : Mem) : ∃ t3 t4 t5 t6 t7 t8 M', evSs (LV 7) b_law_2 [.scr ns, .z (.d (.str wordsS)), .z (.d (.int (j : Int))), s3, s4, s5, s6, s7, s8] M = .nx [.scr ns, .z (.d (.str wordsS)), .z (.d (.int (j : Int))), t3, t4, t5, t6, t7, t8] M' := by
 obtain ⟨M1, e1, v1, _, _⟩ := f_vat 6 ns j M hj hz
 obtain ⟨x, M2, e2, hx, d2⟩ := f_some 5 M.length texts3 M1 v1 (by decide) (by decide)
 obtain ⟨u, M3, e3, u1, u2, d3⟩ := f_under 6 M.length 1000 M2 d2.v (by omega) (by omega)
 have a1 : evS (LV 7) (.asg (.nm 3) (.callW 0 0 (.cons (.v 2) .nil))) [.scr ns, .z (.d (.str wordsS)), .z (.d (.int (j : Int))), s3, s4, s5, s6, s7, s8] M = .nx [.scr ns, .z (.d (.str wordsS)), .z (.d (.int (j : Int))), .z (.r M.length), s4, s5, s6, s7, s8] M1 := by
   have hh := LV_hot 7
   generalize (j : Int) = i at *
   generalize LV 7 = C at *
   simp [evE, evEs, evAnd, evOr, evT, evTA, evTO, evC, evO, evI, evS, evSs, zb_ok, zb_ex, zb_bad, zb_of, zb_no, zt_ok, zt_ex, zt_bad, zc_ok, zc_bad, zo_nx, zo_rt, zo_ex, zo_bad, zf_nx, zf_rt, zf_ex, gz_z, gz_s, slz_z, b_nm, setZ, asB_b, opz_dd, cpz_dd, dsOf_nil, dsOf_cons, biz_d, subz_dd, slz_dd, truthZ_d, boolZ_eq, LV_hot, LB_hot, LV_gv, Option.map_some, Option.bind_some, eqv_ls, eqv_sl, eqv_ii, eqv_snone, eqv_nones, eqv_sbool, eqv_bools, eqv_sint, eqv_ints, eqv_stuple, eqv_tuples, eqv_slist, eqv_lists, eqv_tt, eqv_LL, eqvA_nn, eqvA_nc, eqvA_cn, eqvA_xn, eqvA_cc, okD_int, okD_bool, okD_lit, okD_nilT, okD_nilL, ofString_inj, atI_0, atI_1, atI_2, atI_3, zi_b, zi_o, zi_a, Bi.walks, wipeE, ceq_i, cne_i, clt_i, cgt_i, cge_i, badd, bsub, hh, e1]
 have a2 : evS (LV 7) (.parN [5, 6] (.cons (.call 2 (.cons (.v 3) (.cons (.lst (.cons (.ks "") (.cons (.ks "no script") (.cons (.ks "a b c") .nil)))) .nil))) (.cons (.call 1 (.cons (.v 3) (.cons (.ki 1000) .nil))) .nil))) [.scr ns, .z (.d (.str wordsS)), .z (.d (.int (j : Int))), .z (.r M.length), s4, s5, s6, s7, s8] M1 = .nx [.scr ns, .z (.d (.str wordsS)), .z (.d (.int (j : Int))), .z (.r M.length), s4, .z (.d x), .z (.d (.int u)), s7, s8] M3 := by
   have hh := LV_hot 7
   generalize (j : Int) = i at *
   generalize LV 7 = C at *
   simp [evE, evEs, evAnd, evOr, evT, evTA, evTO, evC, evO, evI, evS, evSs, zb_ok, zb_ex, zb_bad, zb_of, zb_no, zt_ok, zt_ex, zt_bad, zc_ok, zc_bad, zo_nx, zo_rt, zo_ex, zo_bad, zf_nx, zf_rt, zf_ex, gz_z, gz_s, slz_z, b_nm, setZ, asB_b, opz_dd, cpz_dd, dsOf_nil, dsOf_cons, biz_d, subz_dd, slz_dd, truthZ_d, boolZ_eq, LV_hot, LB_hot, LV_gv, Option.map_some, Option.bind_some, eqv_ls, eqv_sl, eqv_ii, eqv_snone, eqv_nones, eqv_sbool, eqv_bools, eqv_sint, eqv_ints, eqv_stuple, eqv_tuples, eqv_slist, eqv_lists, eqv_tt, eqv_LL, eqvA_nn, eqvA_nc, eqvA_cn, eqvA_xn, eqvA_cc, okD_int, okD_bool, okD_lit, okD_nilT, okD_nilL, ofString_inj, atI_0, atI_1, atI_2, atI_3, zi_b, zi_o, zi_a, Bi.walks, wipeE, ceq_i, cne_i, clt_i, cgt_i, cge_i, badd, bsub, hh, e2, e3, setZ]
 have mid : ∃ y t7 t8, x = .str y ∧ evSs (LV 7) mids [.scr ns, .z (.d (.str wordsS)), .z (.d (.int (j : Int))), .z (.r M.length), s4, .z (.d (.str y)), .z (.d (.int u)), s7, s8] M3 = .nx [.scr ns, .z (.d (.str wordsS)), .z (.d (.int (j : Int))), .z (.r M.length), .z (.d (.list (errs y (.int u)))), .z (.d (.str y)), .z (.d (.int u)), t7, t8] M3 := by
   simp only [texts3, List.mem_cons, List.not_mem_nil, or_false] at hx
   rcases hx with rfl | rfl | rfl
   · obtain ⟨t7, t8, e⟩ := mid_0 (.scr ns) (.z (.r M.length)) s4 s7 s8 (.int (j : Int)) (.int u) M3
     exact ⟨"", t7, t8, rfl, e⟩
   · obtain ⟨t7, t8, e⟩ := mid_1 (.scr ns) (.z (.r M.length)) s4 s7 s8 (.int (j : Int)) (.int u) M3
     exact ⟨"no script", t7, t8, rfl, e⟩
   · obtain ⟨t7, t8, e⟩ := mid_2 (.scr ns) (.z (.r M.length)) s4 s7 s8 (.int (j : Int)) (.int u) M3
     exact ⟨"a b c", t7, t8, rfl, e⟩
 obtain ⟨y, t7, t8, rfl, em⟩ := mid
 have el := last_ok y u (.scr ns) (.z (.d (.str wordsS))) (.z (.d (.int (j : Int)))) (.z (.r M.length)) t7 t8 M3
 refine ⟨.z (.r M.length), .z (.d (.list (errs y (.int u)))), .z (.d (.str y)), .z (.d (.int u)), t7, t8, M3, ?_⟩
 have split : ∀ ρ M, evSs (LV 7) b_law_2 ρ M = (evS (LV 7) (nthS 0 b_law_2) ρ M).bind fun ρ1 M1 => (evS (LV 7) (nthS 1 b_law_2) ρ1 M1).bind fun ρ2 M2 => (evSs (LV 7) mids ρ2 M2).bind fun ρ3 M3 => (evS (LV 7) lastS ρ3 M3).bind fun ρ4 M4 => .nx ρ4 M4 := fun ρ M => by
   have bb : ∀ (x : O) (f g : Zt.Env → Mem → O), (x.bind f).bind g = x.bind fun ρ M => (f ρ M).bind g := fun x f g => by cases x <;> rfl
   generalize LV 7 = C
   show (evS C (nthS 0 b_law_2) ρ M).bind (fun ρ1 M1 => (evS C (nthS 1 b_law_2) ρ1 M1).bind fun ρ M => (evS C (nthS 2 b_law_2) ρ M).bind fun ρ M => (evS C (nthS 3 b_law_2) ρ M).bind fun ρ M => (evS C (nthS 4 b_law_2) ρ M).bind fun ρ M => (evS C (nthS 5 b_law_2) ρ M).bind fun ρ M => (evS C (nthS 6 b_law_2) ρ M).bind fun ρ M => (evS C (nthS 7 b_law_2) ρ M).bind fun ρ M => (evS C (nthS 8 b_law_2) ρ M).bind fun ρ M => (evS C lastS ρ M).bind fun ρ4 M4 => .nx ρ4 M4) = _
   congr 1; funext ρ1 M1; congr 1; funext ρ2 M2
   show _ = ((evS C (nthS 2 b_law_2) ρ2 M2).bind fun ρ M => (evS C (nthS 3 b_law_2) ρ M).bind fun ρ M => (evS C (nthS 4 b_law_2) ρ M).bind fun ρ M => (evS C (nthS 5 b_law_2) ρ M).bind fun ρ M => (evS C (nthS 6 b_law_2) ρ M).bind fun ρ M => (evS C (nthS 7 b_law_2) ρ M).bind fun ρ M => (evS C (nthS 8 b_law_2) ρ M).bind fun ρ M => .nx ρ M).bind fun ρ3 M3 => (evS C lastS ρ3 M3).bind fun ρ4 M4 => .nx ρ4 M4
   simp only [bb]
   rfl
 have a1 : evS (LV 7) (nthS 0 b_law_2) [.scr ns, .z (.d (.str wordsS)), .z (.d (.int (j : Int))), s3, s4, s5, s6, s7, s8] M = _ := a1
 have a2 : evS (LV 7) (nthS 1 b_law_2) [.scr ns, .z (.d (.str wordsS)), .z (.d (.int (j : Int))), .z (.r M.length), s4, s5, s6, s7, s8] M1 = _ := a2
 rw [split, a1, zo_nx, a2, zo_nx, em, zo_nx, el, zo_nx]
theorem law_loop (ns : List Int) (hz : ∀ z ∈ ns, Builtin.Int.intBits z ≤ 1048576) : ∀ (js : List Nat) (s2 s3 s4 s5 s6 s7 s8 : Sl) (M : Mem), (∀ j ∈ js, j ≤ 1000) → ∃ t2 t3 t4 t5 t6 t7 t8 M', forL (fun ρ' M' => evSs (LV 7) b_law_2 ρ' M') (.nm 2) (js.map fun (j : Nat) => Z.d (.int (j : Int))) [.scr ns, .z (.d (.str wordsS)), s2, s3, s4, s5, s6, s7, s8] M = .nx [.scr ns, .z (.d (.str wordsS)), t2, t3, t4, t5, t6, t7, t8] M'
 | [], s2, s3, s4, s5, s6, s7, s8, M, _ => ⟨s2, s3, s4, s5, s6, s7, s8, M, rfl⟩
 | j :: js, s2, s3, s4, s5, s6, s7, s8, M, h => by
   obtain ⟨t3, t4, t5, t6, t7, t8, M1, e1⟩ := law_turn j ns hz (h j (List.mem_cons_self ..)) s3 s4 s5 s6 s7 s8 M
   obtain ⟨u2, u3, u4, u5, u6, u7, u8, M2, e2⟩ := law_loop ns hz js (.z (.d (.int (j : Int)))) t3 t4 t5 t6 t7 t8 M1 fun x hx => h x (List.mem_cons_of_mem _ hx)
   refine ⟨u2, u3, u4, u5, u6, u7, u8, M2, ?_⟩
   rw [List.map_cons, for_cons]
   show (evSs (LV 7) b_law_2 [.scr ns, .z (.d (.str wordsS)), .z (.d (.int (j : Int))), s3, s4, s5, s6, s7, s8] M).bind _ = _
   rw [e1, zo_nx]
   exact e2
theorem plainLaw (ns : List Int) (hn : ns.length ≤ 63) (hz : ∀ z ∈ ns, Builtin.Int.intBits z ≤ 1048576) : ∃ M, (lev L.T (fun c d => L.sub (cix L.cls c) d) L.gv L.wf 8 false).fnW false 4 (.scr ns) [] [] = .ok (.d (.bool true)) M := by
 obtain ⟨N, hN, hN2⟩ : ∃ N : Nat, (N : Int) = (if 3 < (if (ns.length : Int) < 6 then (ns.length : Int) else 6) then (if (ns.length : Int) < 6 then (ns.length : Int) else 6) else 3) ∧ N ≤ 9 := by
   by_cases a : ns.length < 6
   · have a' : (ns.length : Int) < 6 := by omega
     by_cases b : 3 < ns.length
     · have b' : (3 : Int) < (ns.length : Int) := by omega
       exact ⟨ns.length, by rw [if_pos a', if_pos b'], by omega⟩
     · have b' : ¬ (3 : Int) < (ns.length : Int) := by omega
       exact ⟨3, by rw [if_pos a', if_neg b'] <;> rfl, by omega⟩
   · have a' : ¬ (ns.length : Int) < 6 := by omega
     exact ⟨6, by rw [if_neg a', if_pos (by omega)] <;> rfl, by omega⟩
 obtain ⟨t2, t3, t4, t5, t6, t7, t8, M1, e1⟩ := law_loop ns hz (List.range N) .no .no .no .no .no .no .no [] fun j hj => by
   have := List.mem_range.mp hj
   omega
 rw [← rng_eq] at e1
 obtain ⟨i, hi⟩ : ∃ i : Int, i = (N : Int) := ⟨_, rfl⟩
 rw [← hi] at e1 hN
 have b1 : i < 4611686018427387904 ∧ -4611686018427387904 ≤ i := by omega
 clear hi
 have hh := LV_hot 7
 refine ⟨M1, ?_⟩
 show (LV 8).fnW false 4 (.scr ns) [] [] = _
 rw [s_law]
 generalize LV 7 = C at *
 have f0 : evS C (nthS 0 d_law.body) [.scr ns, .no, .no, .no, .no, .no, .no, .no, .no] [] = .nx [.scr ns, .z (.d (.str wordsS)), .no, .no, .no, .no, .no, .no, .no] [] := rfl
 have f1 : evS C (nthS 1 d_law.body) [.scr ns, .z (.d (.str wordsS)), .no, .no, .no, .no, .no, .no, .no] [] = .nx [.scr ns, .z (.d (.str wordsS)), t2, t3, t4, t5, t6, t7, t8] M1 := by
   simp [nthS, d_law, evE, evEs, evAnd, evOr, evT, evTA, evTO, evC, evO, evI, evS, evSs, zb_ok, zb_ex, zb_bad, zb_of, zb_no, zt_ok, zt_ex, zt_bad, zc_ok, zc_bad, zo_nx, zo_rt, zo_ex, zo_bad, zf_nx, zf_rt, zf_ex, gz_z, gz_s, slz_z, b_nm, setZ, asB_b, opz_dd, cpz_dd, dsOf_nil, dsOf_cons, biz_d, subz_dd, slz_dd, truthZ_d, boolZ_eq, isz, tyKnown, tyOk, bop, cop, truth, itemD, slcD, bid, LV_hot, LB_hot, LV_gv, gv, Option.map_some, Option.bind_some, eqv_ls, eqv_sl, eqv_ii, eqv_snone, eqv_nones, eqv_sbool, eqv_bools, eqv_sint, eqv_ints, eqv_stuple, eqv_tuples, eqv_slist, eqv_lists, eqv_tt, eqv_LL, eqvA_nn, eqvA_nc, eqvA_cn, eqvA_xn, eqvA_cc, okD_int, okD_bool, okD_lit, okD_nilT, okD_nilL, ofString_inj, atI_0, atI_1, atI_2, atI_3, flatD, inD, zi_b, zi_o, zi_a, okD_T, llen, Bi.walks, ← hN, b1, e1, hh]
 show finB ((evS C (nthS 0 d_law.body) _ _).bind fun ρ1 M1 => (evS C (nthS 1 d_law.body) ρ1 M1).bind fun ρ2 M2 => .rt (.d (.bool true)) M2) = _
 rw [f0, zo_nx, f1]
 rfl
end Lw
theorem PySem.Challenge.cw_wagonlengths_k19_errors_and_their_classe_holds : PySem.Challenge.rw_wagonlengths_k19_errors_and_their_classe.Holds :=
 Lw.fin0 Lw.plainLaw
