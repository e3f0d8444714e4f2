import PyProof.Rows.All
import Wide.All
import OpenK.AllK
import Wide.FinOn
import HandS.ForMost
import HandS.TupAny
import KE.DataCmp
import HandS.Exc
import HandS.ExcOwn
import HandS.Lambda
import HandS.Head1
import HandS.HeadHook1
import HandS.Nested
import HandS.SortOrd
import HandS.SortKw
import KE.KSortKey
import KE.KSortTup
import HandS.TupMul
import HandS.More
import HandS.Style
import HandS.Deep
import HandS.IsInst
import HandS.Strs
import HandS.NamedTupSort
import HandS.Dict
import KE.KDictPairs
import HandS.Conv
import HandS.Walk
import HandS.Zip
import KE.GoesMore
import PyProof.Draws
import HandS.Flow
import HandS.Set
import HandS.SetBool
import HandS.TupSets
import HandS.Iter
import HandS.RaiseMore
import HandS.ExcIs
import HandS.TryOnly
import HandS.Head0
import HandS.Head2
import HandS.HeadEnd
import HandS.Words
import HandS.EndTab
import PySem.Challenge.RW_partfaces_k10_written_kinds
set_option Elab.async false
set_option linter.all false
set_option maxRecDepth 100000
set_option maxHeartbeats 0
/-! A small pure language for the given program's fragment, and what it is worth. -/
namespace G7
open PySem

abbrev D := PyData

/-- an answer, an exception by its class's name, or nothing that is told -/
inductive Res (α : Type) where
  | ok (a : α)
  | exc (c : Str)
  | bad
namespace Res
def bind {α β : Type} : Res α → (α → Res β) → Res β
  | .ok a, f => f a
  | .exc c, _ => .exc c
  | .bad, _ => .bad
instance : Monad Res where
  pure := .ok
  bind := Res.bind
def of {α : Type} : Option α → Res α
  | some a => .ok a
  | none => .bad
end Res

inductive Op2 where
  | add | sub | mul | mod | fdiv | pow
  deriving DecidableEq
inductive Cm where
  | eq | ne | lt | le | gt | ge | inn | nin | is | isn
  deriving DecidableEq
inductive Bt where
  | len | all | any | tuple | list | sorted | dict | int | str | min | max | sset | lset | skey | join | find | startsw | index | count
  deriving DecidableEq
inductive Ty where
  | int | str | bool | tuple | list
  deriving DecidableEq
inductive Tg where
  | nm (i : Nat)
  | tp (ts : Tg)
  | nil
  | cons (t ts : Tg)

inductive E where
  | var (i : Nat)
  | glob (g : Nat)
  | kI (i : Int)
  | kS (s : Str)
  | kB (b : Bool)
  | kN
  | nil
  | cons (e es : E)
  | tup (es : E)
  | lst (es : E)
  | dnew
  | dct1 (k v : E)
  | op (o : Op2) (a b : E)
  | neg (a : E)
  | cmp (o : Cm) (a b : E)
  | chain (o1 o2 : Cm) (a b c : E)
  | and (a b : E)
  | or (a b : E)
  | one (a : E)
  | not (a : E)
  | ite (c a b : E)
  | idx (a i : E)
  | slc (a lo hi : E)
  | call (f : Nat) (args : E)
  | bt (b : Bt) (args : E)
  | isi (a : E) (tys : List Ty)
  | lc (elt : E) (t : Tg) (it : E) (cs : E)
  | itd (i : Nat)
  | rng1 (a : E)
  | rng2 (a b : E)
  | enum (a : E)
  | zip (a b : E)

/-! ### data -/
def keyD : L2.Key → D
  | .inl i => .int i
  | .inr x => .str x
def dKey : D → Option L2.Key
  | .int i => some (.inl i)
  | .str x => some (.inr x)
  | _ => none
def truth : D → Bool
  | .none => false
  | .bool b => b
  | .int i => i != 0
  | .str x => (x.length : Int) != 0
  | .list xs => !xs.isEmpty
  | .tuple xs => !xs.isEmpty
  | .dict kvs => !kvs.isEmpty
/-- a value by its key -/
def lookD (kvs : List (D × D)) (k : L2.Key) : Option D := (kvs.find? fun kv => decide (dKey kv.1 = some k)).map (·.2)
def putD (kvs : List (D × D)) (k : L2.Key) (v : D) : List (D × D) :=
  if (kvs.any fun kv => decide (dKey kv.1 = some k)) = true then kvs.map (fun kv => if dKey kv.1 = some k then (kv.1, v) else kv) else kvs ++ [(keyD k, v)]
def mergeD (kvs more : List (D × D)) : List (D × D) := more.foldl (fun acc kv => match dKey kv.1 with
  | some k => putD acc k kv.2
  | none => acc) kvs
/-- strings by their signs -/
def ltS (a b : Str) : Bool := decide (a.cps.toList < b.cps.toList)
def insS (x : Str) : List Str → List Str
  | [] => [x]
  | y :: r => if ltS y x then y :: insS x r else x :: y :: r
def sortS : List Str → List Str
  | [] => []
  | x :: r => insS x (sortS r)
def dedS : List Str → List Str
  | [] => []
  | x :: r => if x ∈ r then dedS r else x :: dedS r
def strsD : List D → Option (List Str)
  | [] => some []
  | .str x :: r => (strsD r).map (x :: ·)
  | _ :: _ => none
def intsD : List D → Option (List Int)
  | [] => some []
  | .int x :: r => (intsD r).map (x :: ·)
  | _ :: _ => none
def boolsD : List D → Option (List Bool)
  | [] => some []
  | .bool x :: r => (boolsD r).map (x :: ·)
  | _ :: _ => none
def pairsD : List D → Option (List (D × D))
  | [] => some []
  | .tuple [k, v] :: r => match dKey k with
    | some _ => (pairsD r).map ((k, v) :: ·)
    | none => none
  | _ :: _ => none
def insP (x : Str × D) : List (Str × D) → List (Str × D)
  | [] => [x]
  | y :: r => if ltS y.1 x.1 then y :: insP x r else x :: y :: r
def sortP : List (Str × D) → List (Str × D)
  | [] => []
  | x :: r => insP x (sortP r)
def keyedD : List D → Option (List (Str × D))
  | [] => some []
  | .tuple (.str k :: vs) :: r => (keyedD r).map ((k, .tuple (.str k :: vs)) :: ·)
  | _ :: _ => none
def isortI (ns : List Int) : List Int := ns.foldr (fun x l => (l.takeWhile (· < x)) ++ x :: l.dropWhile (· < x)) []
def maxI : List Int → Option Int
  | [] => none
  | [x] => some x
  | x :: r => (maxI r).map fun m => if m > x then m else x
def minI : List Int → Option Int
  | [] => none
  | [x] => some x
  | x :: r => (minI r).map fun m => if m < x then m else x

/-! ### operators -/
def small64 (i : Int) : Bool := decide (-(2 ^ 64) < i) && decide (i < 2 ^ 64)
def repS (x : Str) (k : Nat) : Str := ⟨(List.replicate k x.cps.toList).flatten.toArray⟩
def addD : D → D → Option D
  | .int a, .int b => some (.int (a + b))
  | .str a, .str b => if a.length + b.length ≤ sizeLine then some (.str (a ++ b)) else none
  | .tuple a, .tuple b => if a.length + b.length ≤ sizeLine then some (.tuple (a ++ b)) else none
  | .list a, .list b => if a.length + b.length ≤ sizeLine then some (.list (a ++ b)) else none
  | _, _ => none
def subD : D → D → Option D
  | .int a, .int b => some (.int (a - b))
  | _, _ => none
def mulD : D → D → Option D
  | .int a, .int b => if (small64 a || small64 b) = true then some (.int (a * b)) else none
  | .str x, .int k => if x.length = 1 ∧ 0 ≤ k ∧ k ≤ 1000 then some (.str (repS x k.toNat)) else none
  | .tuple xs, .int k => if xs.length = 1 ∧ 0 ≤ k ∧ k ≤ 1000 then some (.tuple (List.replicate k.toNat xs).flatten) else none
  | .list xs, .int k => if xs.length ≤ 1000 ∧ 0 ≤ k ∧ k ≤ 1000 then some (.list (List.replicate k.toNat xs).flatten) else none
  | _, _ => none
def modD : D → D → Option D
  | .int a, .int b => if 0 < b then some (.int (a % b)) else none
  | _, _ => none
def fdivD : D → D → Option D
  | .int a, .int b => if 0 < b ∧ b < 1073741824 then some (.int (a / b)) else none
  | _, _ => none
def powD : D → D → Option D
  | .int a, .int b => if 0 ≤ b ∧ b ≤ 1000000 ∧ a.natAbs < 2 ^ 64 then some (.int (a ^ b.toNat)) else none
  | _, _ => none
def op2 : Op2 → D → D → Option D
  | .add => addD
  | .sub => subD
  | .mul => mulD
  | .mod => modD
  | .fdiv => fdivD
  | .pow => powD
def negD : D → Option D
  | .int a => some (.int (-a))
  | _ => none
def lexI : List Int → List Int → Bool
  | [], [] => false
  | [], _ :: _ => true
  | _ :: _, [] => false
  | x :: xs, y :: ys => if x = y then lexI xs ys else decide (x < y)
def flatD : D → Bool
  | .none => true
  | .bool _ => true
  | .int _ => true
  | .str _ => true
  | _ => false
mutual
/-- no dict within -/
def noD : D → Bool
  | .dict _ => false
  | .list xs => noDs xs
  | .tuple xs => noDs xs
  | _ => true
def noDs : List D → Bool
  | [] => true
  | x :: r => noD x && noDs r
end
/-- less, of tuples or lists that are alike -/
def seqLt (a b : D) : Option Bool := if noD a = true ∧ noD b = true ∧ min a.depth b.depth ≤ 64 ∧ PySem.W.alike a b = true then some (PySem.W.dataLt a b) else none
def ltD : D → D → Option Bool
  | .int a, .int b => some (decide (a < b))
  | .str a, .str b => some (ltS a b)
  | .tuple xs, .tuple ys => seqLt (.tuple xs) (.tuple ys)
  | .list xs, .list ys => seqLt (.list xs) (.list ys)
  | _, _ => none
/-- equal, where that is told: one of them shallow enough, no dicts -/
def eqD (a b : D) : Option Bool := if noD a = true ∧ noD b = true ∧ min a.depth b.depth ≤ 64 then some (PyData.eqv a b) else none
def inD (x : D) : D → Option Bool
  | .list ys => if noD x = true ∧ noDs ys = true ∧ x.depth ≤ 64 then some (ys.any fun y => PyData.eqv y x) else none
  | .tuple ys => if noD x = true ∧ noDs ys = true ∧ x.depth ≤ 64 then some (ys.any fun y => PyData.eqv y x) else none
  | .str z => match x with
    | .str c => if c.length = 1 then some (decide (c.cps.getD 0 0 ∈ z.cps.toList)) else none
    | _ => none
  | .dict kvs => (dKey x).map fun k => (lookD kvs k).isSome
  | _ => none
/-- is, with None, True, False to the right -/
def isD (x : D) : D → Option Bool
  | .none => some (match x with
    | .none => true
    | _ => false)
  | .bool b => some (match x with
    | .bool c => c == b
    | _ => false)
  | _ => none
def cmpD : Cm → D → D → Option Bool
  | .eq, a, b => eqD a b
  | .ne, a, b => (eqD a b).map (!·)
  | .lt, a, b => ltD a b
  | .gt, a, b => ltD b a
  | .le, a, b => (ltD b a).map (!·)
  | .ge, a, b => (ltD a b).map (!·)
  | .inn, a, b => inD a b
  | .nin, a, b => (inD a b).map (!·)
  | .is, a, b => isD a b
  | .isn, a, b => (isD a b).map (!·)
def idxD : D → D → Option D
  | .tuple xs, .int i => L2.atI xs i
  | .list xs, .int i => L2.atI xs i
  | .str x, .int i => (L2.atI x.cps.toList i).map fun c => .str ⟨#[c]⟩
  | .dict kvs, k => (dKey k).bind (lookD kvs)
  | _, _ => none
def cutD {α : Type} (xs : List α) (lo hi : Option Int) : List α := (xs.drop (HT.sIx xs.length 0 lo)).take (HT.sIx xs.length xs.length hi - HT.sIx xs.length 0 lo)
def slcD (x : D) (lo hi : Option Int) : Option D := match x with
  | .tuple xs => some (.tuple (cutD xs lo hi))
  | .list xs => some (.list (cutD xs lo hi))
  | .str x => some (.str ⟨(cutD x.cps.toList lo hi).toArray⟩)
  | _ => none
/-- a slice's bound: left out, or a whole number -/
def bnd (e : E) (v : Res D) : Res (Option Int) := match e with
  | .kN => .ok none
  | _ => v.bind fun d => match d with
    | .int i => .ok (some i)
    | _ => .bad
def isTy : Ty → D → Bool
  | .int, .int _ => true
  | .int, .bool _ => true
  | .bool, .bool _ => true
  | .str, .str _ => true
  | .tuple, .tuple _ => true
  | .list, .list _ => true
  | _, _ => false
def joinS (a : Str) : List Str → Str
  | [] => Str.empty
  | x :: r => r.foldl (fun acc p => acc ++ a ++ p) x
def srtD (xs : List D) : Option D := (strsD xs).bind fun ss => if ss.length < 64 then some (.list ((sortS ss).map .str)) else none
def setD (xs : List D) : Option D := (strsD xs).bind fun ss => if ss.length < 64 then some (.list ((sortS (dedS ss)).map .str)) else none
def keyS (xs : List D) : Option D := (keyedD xs).bind fun ps => if (ps.map (·.1)).Nodup ∧ ps.length < 64 then some (.list ((sortP ps).map (·.2))) else none
/-- sorted(xs): texts, or tuples whose first items are texts, no two the same -/
def srtL (xs : List D) : Option D := match strsD xs with
  | some _ => srtD xs
  | none => keyS xs
def btD : Bt → List D → Option D
  | .len, [.str x] => some (.int x.length)
  | .len, [.list xs] => some (.int xs.length)
  | .len, [.tuple xs] => some (.int xs.length)
  | .all, [.list xs] => (boolsD xs).map fun bs => .bool (bs.all id)
  | .any, [.list xs] => (boolsD xs).map fun bs => .bool (bs.any id)
  | .tuple, [.list xs] => some (.tuple xs)
  | .tuple, [.tuple xs] => some (.tuple xs)
  | .list, [.list xs] => some (.list xs)
  | .list, [.tuple xs] => some (.list xs)
  | .list, [.dict kvs] => some (.list (kvs.map (·.1)))
  | .sorted, [.list xs] => srtL xs
  | .sorted, [.dict kvs] => srtD (kvs.map (·.1))
  | .sset, [.list xs] => setD xs
  | .sset, [.tuple xs] => setD xs
  | .lset, [.list xs] => (strsD xs).map fun ss => .int ((dedS ss).length : Nat)
  | .dict, [.list xs] => (pairsD xs).map fun ps => .dict (mergeD [] ps)
  | .dict, [.tuple xs] => (pairsD xs).map fun ps => .dict (mergeD [] ps)
  | .int, [.int i] => some (.int i)
  | .int, [.bool b] => some (.int (if b then 1 else 0))
  | .int, [.str a] => if a.length ≤ 640 then (PySem.intText? a).map .int else none
  | .str, [.int i] => if i.natAbs.log2 < 1920 then some (.str (toString i)) else none
  | .min, [.int a, .int b] => some (.int (if b < a then b else a))
  | .max, [.int a, .int b] => some (.int (if b > a then b else a))
  | .min, [.list xs] => (intsD xs).bind fun ns => (minI ns).map .int
  | .max, [.list xs] => (intsD xs).bind fun ns => (maxI ns).map .int
  | .skey, [.list xs] => keyS xs
  | .join, [.str a, .list xs] => (strsD xs).bind fun ss => if (ss.map (·.length)).sum + ss.length * a.length ≤ sizeLine then some (.str (joinS a ss)) else none
  | .index, [.tuple xs, .str z] => match strsD xs with
    | some ss => (ss.findIdx? fun y => decide (y = z)).map fun j => .int (j : Nat)
    | none => none
  | _, _ => none
def seqD : D → Option (List D)
  | .list xs => some xs
  | .tuple xs => some xs
  | .str x => some (x.cps.toList.map fun c => .str ⟨#[c]⟩)
  | _ => none
def rngD (lo : Int) (n : Nat) : List D := (List.range n).map fun k => .int (lo + (k : Nat))
def rngOk (i j : Int) : Bool := decide (-1000000 ≤ i) && decide (i ≤ 16777216) && decide (-1000000 ≤ j) && decide (j ≤ 16777216) && decide (j - i ≤ 16777216)
def enumD : Nat → List D → List D
  | _, [] => []
  | k, x :: r => .tuple [.int (k : Nat), x] :: enumD (k + 1) r
def zipD : List D → List D → List D
  | x :: r, y :: q => .tuple [x, y] :: zipD r q
  | _, _ => []

/-! ### names -/
inductive Sl where
  | dat (d : D)
  | own (d : D)
  | lck (d : D)
def Sl.d : Sl → D
  | .dat d => d
  | .own d => d
  | .lck d => d
abbrev Env := List (Option Sl)
def Env.at : Env → Nat → Option Sl
  | [], _ => none
  | x :: _, 0 => x
  | _ :: r, n + 1 => Env.at r n
def Env.put : Env → Nat → Option Sl → Env
  | [], _, _ => []
  | _ :: r, 0, y => y :: r
  | x :: r, n + 1, y => x :: Env.put r n y
/-- a name's value, looked at -/
def view (ρ : Env) (i : Nat) : Res D := match ρ.at i with
  | some s => .ok s.d
  | none => .bad
/-- a name's value, handed on -/
def read (ρ : Env) (i : Nat) : Res D := match ρ.at i with
  | some (.dat d) => .ok d
  | some (.own d) => .ok d
  | _ => .bad
/-- an operand that is looked at alone -/
def bor (a : E) (ρ : Env) (v : Res D) : Res D := match a with
  | .var i => view ρ i
  | _ => v
/-- the slots of a target -/
def Tg.slots : Tg → List Nat
  | .nm i => [i]
  | .tp ts => ts.slots
  | .nil => []
  | .cons t ts => t.slots ++ ts.slots
def bindT : Tg → D → Env → Res Env
  | .nm i, d, ρ => .ok (ρ.put i (some (.dat d)))
  | .tp ts, .tuple ds, ρ => bindTs ts ds ρ
  | _, _, _ => .bad
where bindTs : Tg → List D → Env → Res Env
  | .nil, [], ρ => .ok ρ
  | .cons t ts, d :: ds, ρ => (bindT t d ρ).bind (bindTs ts ds)
  | _, _, _ => .bad
def wipeE (ρ : Env) : List Nat → Env
  | [] => ρ
  | v :: vs => (wipeE ρ vs).put v none
def consO : Option D → List D → List D
  | some y, ys => y :: ys
  | none, ys => ys
def lcLoop (f : D → Res (Option D)) : List D → Res (List D)
  | [] => .ok []
  | x :: r => (f x).bind fun o => (lcLoop f r).bind fun ys => .ok (consO o ys)
/-- an own list or dict of a name -/
def ownOf (ρ : Env) (i : Nat) : Res D := match ρ.at i with
  | some (.own d) => .ok d
  | _ => .bad
def ownL (ρ : Env) (i : Nat) : Res (List D) := match ρ.at i with
  | some (.own (.list xs)) => .ok xs
  | _ => .bad
def ownK (ρ : Env) (i : Nat) : Res (List (D × D)) := match ρ.at i with
  | some (.own (.dict kvs)) => .ok kvs
  | _ => .bad
def lckK (ρ : Env) (i : Nat) : Res (List (D × D)) := match ρ.at i with
  | some (.lck (.dict kvs)) => .ok kvs
  | _ => .bad
/-- within a comprehension nothing is raised -/
def calm {α : Type} : Res α → Res α
  | .ok a => .ok a
  | _ => .bad

section
variable (G : Nat → Option D) (fe : Nat → List D → Res D)
mutual
def evalE : E → Env → Res D
  | .var i, ρ => read ρ i
  | .glob g, _ => .of (G g)
  | .kI i, _ => .ok (.int i)
  | .kS s, _ => .ok (.str s)
  | .kB b, _ => .ok (.bool b)
  | .kN, _ => .ok .none
  | .tup es, ρ => (evalA es ρ).bind fun ds => .ok (.tuple ds)
  | .lst es, ρ => (evalA es ρ).bind fun ds => .ok (.list ds)
  | .dnew, _ => .ok (.dict [])
  | .dct1 k v, ρ => (evalE k ρ).bind fun a => (evalE v ρ).bind fun b => .of ((dKey a).map fun _ => .dict [(a, b)])
  | .op o a b, ρ => (bor a ρ (evalE a ρ)).bind fun x => (bor b ρ (evalE b ρ)).bind fun y => .of (op2 o x y)
  | .neg a, ρ => (evalE a ρ).bind fun x => .of (negD x)
  | .cmp o a b, ρ => (bor a ρ (evalE a ρ)).bind fun x => (bor b ρ (evalE b ρ)).bind fun y => .of ((cmpD o x y).map .bool)
  | .chain o1 o2 a b c, ρ => (bor a ρ (evalE a ρ)).bind fun x => (bor b ρ (evalE b ρ)).bind fun y => (Res.of (cmpD o1 x y)).bind fun k =>
      if k then (bor c ρ (evalE c ρ)).bind fun z => .of ((cmpD o2 y z).map .bool) else .ok (.bool false)
  | .and a b, ρ => (evalE a ρ).bind fun x => if truth x then evalE b ρ else .ok x
  | .or a b, ρ => (evalE a ρ).bind fun x => if truth x then .ok x else evalE b ρ
  | .one a, ρ => evalE a ρ
  | .not a, ρ => (evalE a ρ).bind fun x => .ok (.bool (!truth x))
  | .ite c a b, ρ => (evalE c ρ).bind fun x => if truth x then evalE a ρ else evalE b ρ
  | .idx a i, ρ => (bor a ρ (evalE a ρ)).bind fun x => (evalE i ρ).bind fun y => .of (idxD x y)
  | .slc a lo hi, ρ => (bor a ρ (evalE a ρ)).bind fun x => (bnd lo (evalE lo ρ)).bind fun y => (bnd hi (evalE hi ρ)).bind fun z => .of (slcD x y z)
  | .call f es, ρ => (evalA es ρ).bind fun ds => fe f ds
  | .bt b es, ρ => (evalAB es ρ).bind fun ds => .of (btD b ds)
  | .isi a tys, ρ => (bor a ρ (evalE a ρ)).bind fun x => .ok (.bool (tys.any fun t => isTy t x))
  | .lc elt t it cs, ρ => (evalI it ρ).bind fun xs => (calm (lcLoop (fun x => (bindT t x (wipeE ρ t.slots)).bind fun ρ1 => (evalC cs ρ1).bind fun c =>
      if c then (evalE elt ρ1).bind fun y => .ok (some y) else .ok none) xs)).bind fun ys => .ok (.list ys)
  | _, _ => .bad
def evalA : E → Env → Res (List D)
  | .nil, _ => .ok []
  | .cons e es, ρ => (evalE e ρ).bind fun d => (evalA es ρ).bind fun ds => .ok (d :: ds)
  | _, _ => .bad
def evalAB : E → Env → Res (List D)
  | .nil, _ => .ok []
  | .cons e es, ρ => (bor e ρ (evalE e ρ)).bind fun d => (evalAB es ρ).bind fun ds => .ok (d :: ds)
  | _, _ => .bad
/-- a comprehension's test -/
def evalC : E → Env → Res Bool
  | .nil, _ => .ok true
  | .cons c .nil, ρ => (evalE c ρ).bind fun d => .ok (truth d)
  | _, _ => .bad
/-- what is walked -/
def evalI : E → Env → Res (List D)
  | .rng1 a, ρ => (evalE a ρ).bind fun x => match x with
    | .int j => if rngOk 0 j = true then .ok (rngD 0 j.toNat) else .bad
    | _ => .bad
  | .rng2 a b, ρ => (evalE a ρ).bind fun x => (evalE b ρ).bind fun y => match x, y with
    | .int i, .int j => if rngOk i j = true then .ok (rngD i (j - i).toNat) else .bad
    | _, _ => .bad
  | .enum a, ρ => (evalE a ρ).bind fun x => match x with
    | .list xs => .ok (enumD 0 xs)
    | .tuple xs => .ok (enumD 0 xs)
    | _ => .bad
  | .zip a b, ρ => (evalE a ρ).bind fun x => (evalE b ρ).bind fun y => match x, y with
    | .tuple xs, .tuple ys => .ok (zipD xs ys)
    | _, _ => .bad
  | .one a, ρ => (bor a ρ (evalE a ρ)).bind fun x => .of (seqD x)
  | .itd i, ρ => (lckK ρ i).bind fun kvs => .ok (kvs.map (·.1))
  | _, _ => .bad
end

/-! ### which own things get out -/
mutual
def esc : E → List Nat
  | .var i => [i]
  | .tup es => escA es
  | .lst es => escA es
  | .dct1 k v => esc k ++ esc v
  | .op _ a b => escB a ++ escB b
  | .neg a => esc a
  | .cmp _ a b => escB a ++ escB b
  | .chain _ _ a b c => escB a ++ escB b ++ escB c
  | .and a b => esc a ++ esc b
  | .or a b => esc a ++ esc b
  | .one a => esc a
  | .not a => escB a
  | .ite c a b => escB c ++ esc a ++ esc b
  | .idx a i => escB a ++ esc i
  | .slc a lo hi => escB a ++ esc lo ++ esc hi
  | .call _ es => escA es
  | .bt _ es => escAB es
  | .isi a _ => escB a
  | .lc elt t it cs => escI it ++ (esc elt ++ escC cs).filter fun i => !t.slots.contains i
  | _ => []
def escB : E → List Nat
  | .var _ => []
  | .tup es => escA es
  | .lst es => escA es
  | .dct1 k v => esc k ++ esc v
  | .op _ a b => escB a ++ escB b
  | .neg a => esc a
  | .cmp _ a b => escB a ++ escB b
  | .chain _ _ a b c => escB a ++ escB b ++ escB c
  | .and a b => esc a ++ esc b
  | .or a b => esc a ++ esc b
  | .one a => esc a
  | .not a => escB a
  | .ite c a b => escB c ++ esc a ++ esc b
  | .idx a i => escB a ++ esc i
  | .slc a lo hi => escB a ++ esc lo ++ esc hi
  | .call _ es => escA es
  | .bt _ es => escAB es
  | .isi a _ => escB a
  | .lc elt t it cs => escI it ++ (esc elt ++ escC cs).filter fun i => !t.slots.contains i
  | _ => []
def escA : E → List Nat
  | .cons e es => esc e ++ escA es
  | _ => []
def escAB : E → List Nat
  | .cons e es => escB e ++ escAB es
  | _ => []
def escC : E → List Nat
  | .cons c _ => escB c
  | _ => []
def escI : E → List Nat
  | .rng1 a => esc a
  | .rng2 a b => esc a ++ esc b
  | .enum a => esc a
  | .zip a b => esc a ++ esc b
  | .one a => escB a
  | _ => []
end
/-- a new list or dict comes of it -/
def fresh : E → Bool
  | .lst _ => true
  | .dnew => true
  | .dct1 _ _ => true
  | .op .add _ _ => true
  | .op .mul _ _ => true
  | .bt .list _ => true
  | .bt .sorted _ => true
  | .bt .sset _ => true
  | .bt .skey _ => true
  | .bt .dict _ => true
  | .lc _ _ _ _ => true
  | _ => false
def isCont : D → Bool
  | .list _ => true
  | .dict _ => true
  | _ => false
/-- own things that got out are data from now on -/
def frzE (ρ : Env) : List Nat → Env
  | [] => ρ
  | j :: js => match (frzE ρ js).at j with
    | some (.own d) => (frzE ρ js).put j (some (.dat d))
    | _ => frzE ρ js

/-- tests of a caught exception -/
inductive HB where
  | isx (c : Nat)
  | isv
  | and (a b : HB)
  | or (a b : HB)
  | one (a : HB)
  | not (a : HB)
def HB.val (k : Nat) : HB → Bool
  | .isx c => decide (k = c)
  | .isv => true
  | .and a b => a.val k && b.val k
  | .or a b => a.val k || b.val k
  | .one a => a.val k
  | .not a => !a.val k
/-- what an except clause stores -/
inductive HV where
  | non
  | tup (es : List (Sum Str HB))
  | plus (i : Nat) (b : HB)
def HV.elt (k : Nat) : Sum Str HB → D
  | .inl s => .str s
  | .inr b => .bool (b.val k)
def HV.val (k : Nat) (ρ : Env) : HV → Res D
  | .non => .ok .none
  | .tup es => .ok (.tuple (es.map (HV.elt k)))
  | .plus i b => match ρ.at i with
    | some (.dat (.int x)) => .ok (.int (x + (if b.val k then 1 else 0)))
    | _ => .bad
inductive S where
  | nil
  | cons (s r : S)
  | asg (t : Tg) (e : E)
  | ret (e : E)
  | retN
  | ifs (c : E) (a b : S)
  | for_ (t : Tg) (it : E) (body : S)
  | lock (i : Nat) (s : S)
  | whl (c : E) (body : S)
  | app (i : Nat) (e : E)
  | ext (i : Nat) (e : E)
  | dput (i : Nat) (k v : E)
  | dupd (i : Nat) (e : E)
  | pass
  | cont
  | brk
  | raise (c : Nat)
  | expr (e : E)
  | pop0 (t i : Nat)
  | try1 (t : Option Nat) (e : E) (n : Option Nat) (ht : Nat) (hv : HV) (cs : List Nat)
  | never
inductive Fl where
  | next (ρ : Env)
  | ret (d : D)
  | cont (ρ : Env)
  | brk (ρ : Env)
def forLoop (f : Env → Res Fl) (t : Tg) : List D → Env → Res Fl
  | [], ρ => .ok (.next ρ)
  | x :: r, ρ => (bindT t x ρ).bind fun ρ1 => (f ρ1).bind fun fl => match fl with
    | .next ρ2 => forLoop f t r ρ2
    | .cont ρ2 => forLoop f t r ρ2
    | .brk ρ2 => .ok (.next ρ2)
    | .ret d => .ok (.ret d)
def whlLoop (c : Env → Res (Bool × Env)) (f : Env → Res Fl) : Nat → Env → Res Fl
  | 0, _ => .bad
  | n + 1, ρ => (c ρ).bind fun k => if k.1 then (f k.2).bind fun fl => (match fl with
    | .next ρ2 => whlLoop c f n ρ2
    | .cont ρ2 => whlLoop c f n ρ2
    | .brk ρ2 => .ok (.next ρ2)
    | .ret d => .ok (.ret d)) else .ok (.next k.2)
def WF : Nat := 100000
/-- a locked dict is one's own again -/
def unlE (i : Nat) (ρ : Env) : Res Env := match ρ.at i with
  | some (.lck d) => .ok (ρ.put i (some (.own d)))
  | _ => .bad
def unlock (i : Nat) : Fl → Res Fl
  | .next ρ => (unlE i ρ).bind fun ρ' => .ok (.next ρ')
  | .ret d => .ok (.ret d)
  | .cont ρ => (unlE i ρ).bind fun ρ' => .ok (.cont ρ')
  | .brk ρ => (unlE i ρ).bind fun ρ' => .ok (.brk ρ')
/-- the caught exception's slot is nobody's -/
def clr (n : Option Nat) (ρ : Env) : Env := match n with
  | none => ρ
  | some i => ρ.put i none
def nOk (n : Option Nat) (ρ : Env) : Bool := match n with
  | none => true
  | some i => decide (i < ρ.length)
variable (ec : Nat → Str)
def exec : S → Env → Res Fl
  | .nil, ρ => .ok (.next ρ)
  | .cons s r, ρ => (exec s ρ).bind fun fl => match fl with
    | .next ρ1 => exec r ρ1
    | fl => .ok fl
  | .asg (.nm i) e, ρ => (evalE G fe e ρ).bind fun d => .ok (.next ((frzE ρ (esc e)).put i (some (if (fresh e && isCont d) = true then .own d else .dat d))))
  | .asg t e, ρ => (evalE G fe e ρ).bind fun d => (bindT t d (frzE ρ (esc e))).bind fun ρ1 => .ok (.next ρ1)
  | .ret e, ρ => (evalE G fe e ρ).bind fun d => .ok (.ret d)
  | .retN, _ => .ok (.ret .none)
  | .ifs c a b, ρ => (evalE G fe c ρ).bind fun d => if truth d then exec a (frzE ρ (escB c)) else exec b (frzE ρ (escB c))
  | .for_ t it body, ρ => (evalI G fe it ρ).bind fun xs => forLoop (fun ρ => exec body ρ) t xs (frzE ρ (match it with
    | .one (.var i) => [i]
    | it => escI it))
  | .lock i s, ρ => (ownK ρ i).bind fun kvs => (exec s (ρ.put i (some (.lck (.dict kvs))))).bind fun fl => unlock i fl
  | .whl c body, ρ => whlLoop (fun ρ => (evalE G fe c ρ).bind fun d => .ok (truth d, frzE ρ (escB c))) (fun ρ => exec body ρ) WF ρ
  | .app i e, ρ => (ownL ρ i).bind fun xs => (evalE G fe e ρ).bind fun d => if i ∈ esc e then .bad else if xs.length < sizeLine then .ok (.next ((frzE ρ (esc e)).put i (some (.own (.list (xs ++ [d])))))) else .bad
  | .ext i e, ρ => (ownL ρ i).bind fun xs => (bor e ρ (evalE G fe e ρ)).bind fun d => if i ∈ escB e then .bad else match d with
    | .list ys => if xs.length + ys.length ≤ sizeLine then .ok (.next ((frzE ρ (escB e)).put i (some (.own (.list (xs ++ ys)))))) else .bad
    | _ => .bad
  | .dput i k v, ρ => (ownK ρ i).bind fun kvs => (evalE G fe v ρ).bind fun y => (evalE G fe k ρ).bind fun x => if i ∈ esc v ++ esc k then .bad else match dKey x with
    | some key => if kvs.length < sizeLine then .ok (.next ((frzE ρ (esc v ++ esc k)).put i (some (.own (.dict (putD kvs key y)))))) else .bad
    | none => .bad
  | .dupd i e, ρ => (ownK ρ i).bind fun kvs => (evalE G fe e ρ).bind fun d => if i ∈ esc e then .bad else match d with
    | .dict more => if kvs.length + more.length < sizeLine then .ok (.next ((frzE ρ (esc e)).put i (some (.own (.dict (mergeD kvs more)))))) else .bad
    | _ => .bad
  | .pass, ρ => .ok (.next ρ)
  | .cont, ρ => .ok (.cont ρ)
  | .brk, ρ => .ok (.brk ρ)
  | .raise c, _ => .exc (ec c)
  | .expr e, ρ => (evalE G fe e ρ).bind fun _ => .ok (.next (frzE ρ (esc e)))
  | .pop0 t i, ρ => (ownL ρ i).bind fun xs => match xs with
    | x :: r => .ok (.next ((ρ.put i (some (.own (.list r)))).put t (some (.dat x))))
    | [] => .bad
  | .try1 t e n ht hv cs, ρ => match evalE G fe e ρ with
    | .ok d => .ok (.next (match t with
      | some i => (frzE ρ (esc e)).put i (some (if (fresh e && isCont d) = true then .own d else .dat d))
      | none => frzE ρ (esc e)))
    | .exc c => (match cs.find? fun k => decide (ec k = c) with
      | some k => if nOk n ρ = true then (hv.val k (frzE ρ (esc e))).bind fun d => .ok (.next ((clr n (frzE ρ (esc e))).put ht (some (.dat d)))) else .bad
      | none => .bad)
    | .bad => .bad
  | .never, _ => .bad
end

/-- a def: how many parameters, how many names, its body -/
structure Fn where
  ps : Nat
  n : Nat
  body : S
def initE (ds : List D) (n : Nat) : Env := ds.map (fun d => some (.dat d)) ++ List.replicate (n - ds.length) none
def endD : Res Fl → Res D
  | .ok (.ret d) => .ok d
  | .ok (.next _) => .ok .none
  | .exc c => .exc c
  | _ => .bad
def callF (G : Nat → Option D) (ec : Nat → Str) (M : Nat → Option Fn) : Nat → Nat → List D → Res D
  | 0, _, _ => .bad
  | n + 1, f, ds => match M f with
    | some fn => if ds.length = fn.ps then endD (exec G (callF G ec M n) ec fn.body (initE ds fn.n)) else .bad
    | none => .bad
end G7

namespace G7
open L2 PyProof.Rows PySem.Spec PySem
abbrev St := L2.St

/-! ### data in an abstract heap -/
def SOk (x : Str) : Prop := x.length ≤ sizeLine ∧ PySem.PyData.strOk x = true
def KOk : Key → Prop
  | .inl _ => True
  | .inr x => SOk x
/-- a tuple's own object, so far as it is known: it has no dict -/
abbrev TupO (o : Obj) (vs : List V) : HO := .frz o (.tup vs)
/-- a plain tuple -/
def TupP (K : PySem.W.Frag) (F : Hp) (a : Addr) (vs : List V) : Prop :=
  (∃ o, o.dict = none ∧ F a = some (TupO o vs)) ∨ ∃ (o : Obj) (its : Array Value) (n : Nat), K.lookup a = some o ∧ o.cls = .type "tuple" ∧ o.dict = none ∧ o.data = .seq its n ∧ its.size ≤ sizeLine ∧ Vals vs its.toList
theorem TupP.sqT {K : PySem.W.Frag} {F : Hp} {a : Addr} {vs : List V} (h : TupP K F a vs) : SqT K F a vs := by
  rcases h with ⟨o, _, h⟩ | ⟨o, its, n, h1, h2, _, h3, h4, h5⟩
  · exact .inl (.inr ⟨o, h⟩)
  · exact .inr ⟨o, its, n, h1, h2, h3, h4, h5⟩
mutual
inductive Rep (K : PySem.W.Frag) (F : Hp) : V → D → Prop
  | non : Rep K F .non .none
  | bl (b : Bool) : Rep K F (.bl b) (.bool b)
  | int (i : Int) : Rep K F (.int i) (.int i)
  | str {x : Str} : SOk x → Rep K F (.str x) (.str x)
  | tup {a : Addr} {vs : List V} {ds : List D} : TupP K F a vs → Reps K F vs ds → Rep K F (.ref a) (.tuple ds)
  | lst {a : Addr} {vs : List V} {ds : List D} : Rd F a (.lst vs) → Reps K F vs ds → Rep K F (.ref a) (.list ds)
  | dct {a : Addr} {kvs : List (Key × V)} {ds : List (D × D)} : F a = some (.dK kvs) → RepK K F kvs ds → Rep K F (.ref a) (.dict ds)
inductive Reps (K : PySem.W.Frag) (F : Hp) : List V → List D → Prop
  | nil : Reps K F [] []
  | cons {v : V} {vs : List V} {d : D} {ds : List D} : Rep K F v d → Reps K F vs ds → Reps K F (v :: vs) (d :: ds)
inductive RepK (K : PySem.W.Frag) (F : Hp) : List (Key × V) → List (D × D) → Prop
  | nil : RepK K F [] []
  | cons {k : Key} {v : V} {vs : List (Key × V)} {d : D} {ds : List (D × D)} : KOk k → Rep K F v d → RepK K F vs ds → RepK K F ((k, v) :: vs) ((keyD k, d) :: ds)
end

def Sub (F H : Hp) : Prop := ∀ a o, F a = some o → H a = some o
theorem Sub.refl (F : Hp) : Sub F F := fun _ _ h => h
theorem Sub.trans {F G H : Hp} (a : Sub F G) (b : Sub G H) : Sub F H := fun c o h => b c o (a c o h)
theorem Sub.rd {F H : Hp} (s : Sub F H) {a : Addr} {u : HO} (r : Rd F a u) : Rd H a u := by
  rcases r with r | ⟨o, r⟩
  · exact .inl (s _ _ r)
  · exact .inr ⟨o, s _ _ r⟩
theorem Sub.sqL {K : PySem.W.Frag} {F H : Hp} (s : Sub F H) {a : Addr} {xs : List V} (r : SqL K F a xs) : SqL K H a xs := by
  rcases r with r | r
  · exact .inl (s.rd r)
  · exact .inr r
theorem Sub.sqT {K : PySem.W.Frag} {F H : Hp} (s : Sub F H) {a : Addr} {xs : List V} (r : SqT K F a xs) : SqT K H a xs := by
  rcases r with r | r
  · exact .inl (s.rd r)
  · exact .inr r
theorem Sub.tupP {K : PySem.W.Frag} {F H : Hp} (s : Sub F H) {a : Addr} {xs : List V} (r : TupP K F a xs) : TupP K H a xs := by
  rcases r with ⟨o, d, r⟩ | r
  · exact .inl ⟨o, d, s _ _ r⟩
  · exact .inr r
theorem TupP.new {K : PySem.W.Frag} {F : Hp} {a : Addr} {o : Obj} {vs : List V} (d : o.dict = none) : TupP K (upd F a (TupO o vs)) a vs := .inl ⟨o, d, upd_same⟩
mutual
theorem Rep.mono {K : PySem.W.Frag} {F H : Hp} (s : Sub F H) {v : V} {d : D} : Rep K F v d → Rep K H v d
  | .non => .non
  | .bl b => .bl b
  | .int i => .int i
  | .str h => .str h
  | .tup h r => .tup (s.tupP h) (Reps.mono s r)
  | .lst h r => .lst (s.rd h) (Reps.mono s r)
  | .dct h r => .dct (s _ _ h) (RepK.mono s r)
theorem Reps.mono {K : PySem.W.Frag} {F H : Hp} (s : Sub F H) {v : List V} {d : List D} : Reps K F v d → Reps K H v d
  | .nil => .nil
  | .cons h r => .cons (Rep.mono s h) (Reps.mono s r)
theorem RepK.mono {K : PySem.W.Frag} {F H : Hp} (s : Sub F H) {v : List (Key × V)} {d : List (D × D)} : RepK K F v d → RepK K H v d
  | .nil => .nil
  | .cons k h r => .cons k (Rep.mono s h) (RepK.mono s r)
end
section
variable {K : PySem.W.Frag} {F : Hp}
theorem Reps.length : ∀ {vs : List V} {ds : List D}, Reps K F vs ds → vs.length = ds.length
  | _, _, .nil => rfl
  | _, _, .cons _ r => by rw [List.length_cons, List.length_cons, r.length]
theorem RepK.length : ∀ {vs : List (Key × V)} {ds : List (D × D)}, RepK K F vs ds → vs.length = ds.length
  | _, _, .nil => rfl
  | _, _, .cons _ _ r => by rw [List.length_cons, List.length_cons, r.length]
theorem Reps.append : ∀ {vs us : List V} {ds es : List D}, Reps K F vs ds → Reps K F us es → Reps K F (vs ++ us) (ds ++ es)
  | _, _, _, _, .nil, s => s
  | _, _, _, _, .cons h r, s => .cons h (Reps.append r s)
theorem Reps.get : ∀ {vs : List V} {ds : List D} {i : Nat} {d : D}, Reps K F vs ds → ds[i]? = some d → ∃ v, vs[i]? = some v ∧ Rep K F v d
  | _, _, _, _, .nil, e => by simp at e
  | _, _, 0, _, .cons h _, e => by simp at e; subst e; exact ⟨_, rfl, h⟩
  | _, _, i + 1, d, .cons _ r, e => by
    obtain ⟨v, h1, h2⟩ := Reps.get (i := i) (d := d) r (by simpa using e)
    exact ⟨v, by simpa using h1, h2⟩
theorem Reps.getV : ∀ {vs : List V} {ds : List D} {i : Nat} {v : V}, Reps K F vs ds → vs[i]? = some v → ∃ d, ds[i]? = some d ∧ Rep K F v d
  | _, _, _, _, .nil, e => by simp at e
  | _, _, 0, _, .cons h _, e => by simp at e; subst e; exact ⟨_, rfl, h⟩
  | _, _, i + 1, d, .cons _ r, e => by
    obtain ⟨v, h1, h2⟩ := Reps.getV (i := i) (v := d) r (by simpa using e)
    exact ⟨v, by simpa using h1, h2⟩
theorem Reps.take : ∀ {vs : List V} {ds : List D} (n : Nat), Reps K F vs ds → Reps K F (vs.take n) (ds.take n)
  | _, _, 0, _ => by simp only [List.take_zero]; exact .nil
  | _, _, _ + 1, .nil => .nil
  | _, _, n + 1, .cons h r => .cons h (Reps.take n r)
theorem Reps.drop : ∀ {vs : List V} {ds : List D} (n : Nat), Reps K F vs ds → Reps K F (vs.drop n) (ds.drop n)
  | _, _, 0, r => r
  | _, _, _ + 1, .nil => .nil
  | _, _, n + 1, .cons _ r => Reps.drop n r
theorem Reps.rep : ∀ {vs : List V} {ds : List D} (n : Nat), Reps K F vs ds → Reps K F (List.replicate n vs).flatten (List.replicate n ds).flatten
  | _, _, 0, _ => .nil
  | _, _, n + 1, r => by
    rw [List.replicate_succ, List.replicate_succ, List.flatten_cons, List.flatten_cons]
    exact r.append (Reps.rep n r)
end

/-! ### what a step leaves -/
def isTbl : HO → Bool
  | .tbl _ => true
  | _ => false
/-- a table of code objects, each of them known -/
def TabO (H : Hp) (P : Addr) : Prop := ∃ ps : Array Value, H P = some (.tbl ps) ∧ TriplesOk ps.toList ∧ ∀ (pos : Pos) (cv : Value), codeAmong pos ps.toList = some cv → ∃ c q, cv = .ref c ∧ H c = some (LamX.CodeO c q)
structure Keeps (H H' : Hp) : Prop where
  keep : ∀ a o, H a = some o → isTbl o = false → H' a = some o
  tbl : ∀ a ps, H a = some (.tbl ps) → ∃ more, H' a = some (.tbl (ps ++ more))
  tab : ∀ P, TabO H P → TabO H' P
theorem TabO.mono {H H' : Hp} {P : Addr} (t : TabO H P) (h1 : ∀ ps, H P = some (.tbl ps) → H' P = some (.tbl ps)) (h2 : ∀ c q, H c = some (LamX.CodeO c q) → H' c = some (LamX.CodeO c q)) : TabO H' P := by
  obtain ⟨ps, a, b, c⟩ := t
  exact ⟨ps, h1 ps a, b, fun pos cv e => by obtain ⟨x, q, e1, e2⟩ := c pos cv e; exact ⟨x, q, e1, h2 x q e2⟩⟩
theorem Keeps.same {H H' : Hp} (h : ∀ a o, H a = some o → H' a = some o) : Keeps H H' :=
  ⟨fun a o q _ => h a o q, fun a ps q => ⟨#[], by rw [h _ _ q]; simp⟩, fun P t => t.mono (fun ps q => h _ _ q) fun c q e => h _ _ e⟩
theorem Keeps.refl (H : Hp) : Keeps H H := Keeps.same fun _ _ h => h
theorem Keeps.trans {H H1 H2 : Hp} (a : Keeps H H1) (b : Keeps H1 H2) : Keeps H H2 :=
  ⟨fun c o h n => b.keep c o (a.keep c o h n) n, fun c ps h => by
    obtain ⟨m1, e1⟩ := a.tbl c ps h
    obtain ⟨m2, e2⟩ := b.tbl c _ e1
    exact ⟨m1 ++ m2, by rw [e2, Array.append_assoc]⟩, fun P t => b.tab P (a.tab P t)⟩
theorem Keeps.free {H H' : Hp} (k : Keeps H H') {a : Addr} (h : H' a = none) : H a = none := by
  cases q : H a with
  | none => rfl
  | some o =>
    cases t : isTbl o with
    | false => rw [k.keep a o q t] at h; cases h
    | true =>
      cases o with
      | tbl ps => obtain ⟨m, e⟩ := k.tbl a ps q; rw [e] at h; cases h
      | _ => cases t
theorem Keeps.laid {H : Hp} {p : Addr} {o : HO} (h : H p = none) : Keeps H (upd H p o) := Keeps.same fun a u q => by rw [upd_ne (ne_of_none q h)]; exact q
theorem Keeps.of {H H' : Hp} (h : ∀ a o, H a = some o → H' a = some o) : Keeps H H' := Keeps.same h

/-- nothing of a table is data -/
def Plain (F : Hp) : Prop := ∀ a o, F a = some o → isTbl o = false
structure Inn (F H : Hp) : Prop where
  sub : Sub F H
  plain : Plain F
structure Ext (A : Addr → Prop) (F H F' H' : Hp) : Prop where
  sub : Sub F F'
  same : Keeps H H'
  new : ∀ a o, F' a = some o → F a = some o ∨ H a = none ∨ A a
  inn : Inn F' H'
abbrev Nil : Addr → Prop := fun _ => False
theorem Ext.refl {F H : Hp} (h : Inn F H) {A : Addr → Prop} : Ext A F H F H := ⟨Sub.refl F, Keeps.refl H, fun _ _ h => .inl h, h⟩
theorem Ext.mono {A B : Addr → Prop} {F H F' H' : Hp} (e : Ext A F H F' H') (h : ∀ a, A a → B a) : Ext B F H F' H' :=
  ⟨e.sub, e.same, fun a o q => (e.new a o q).imp id (Or.imp id (h a)), e.inn⟩
theorem Ext.trans {A B C : Addr → Prop} {F H F1 H1 F2 H2 : Hp} (a : Ext A F H F1 H1) (b : Ext B F1 H1 F2 H2) (ha : ∀ x, A x → C x) (hb : ∀ x, B x → C x) : Ext C F H F2 H2 :=
  ⟨a.sub.trans b.sub, a.same.trans b.same, fun x o q => by
    rcases b.new x o q with q | q | q
    · rcases a.new x o q with q | q | q
      · exact .inl q
      · exact .inr (.inl q)
      · exact .inr (.inr (ha x q))
    · exact .inr (.inl (a.same.free q))
    · exact .inr (.inr (hb x q)), b.inn⟩
/-- a new object, not counted as data yet -/
theorem Ext.laid {A : Addr → Prop} {F H : Hp} {p : Addr} {o : HO} (h : Inn F H) (hp : H p = none) : Ext A F H F (upd H p o) :=
  ⟨Sub.refl F, Keeps.laid hp, fun _ _ q => .inl q, ⟨fun a u q => by rw [upd_ne (ne_of_none (h.sub a u q) hp)]; exact h.sub a u q, h.plain⟩⟩
theorem Inn.free {F H : Hp} (h : Inn F H) {p : Addr} (hp : H p = none) : F p = none := by
  cases q : F p with
  | none => rfl
  | some o => rw [h.sub p o q] at hp; cases hp
/-- .. and counted as data -/
theorem Ext.laidF {A : Addr → Prop} {F H : Hp} {p : Addr} {o : HO} (h : Inn F H) (hp : H p = none) (ho : isTbl o = false) : Ext A F H (upd F p o) (upd H p o) := by
  have fp := h.free hp
  refine ⟨fun a u q => by rw [upd_ne (ne_of_none q fp)]; exact q, Keeps.laid hp, fun a u q => ?_, fun a u q => ?_, fun a u q => ?_⟩
  · by_cases e : a = p
    · subst e; exact .inr (.inl hp)
    · rw [upd_ne e] at q; exact .inl q
  · by_cases e : a = p
    · subst e; rw [upd_same] at q ⊢; exact q
    · rw [upd_ne e] at q ⊢; exact h.sub a u q
  · by_cases e : a = p
    · subst e; rw [upd_same] at q; cases q; exact ho
    · rw [upd_ne e] at q; exact h.plain a u q
/-- what stands is counted as data from now on -/
theorem Ext.freeze {A : Addr → Prop} {F H F' H' : Hp} {p : Addr} {o : HO} (e : Ext A F H F' H') (hp : F' p = none) (ho : H' p = some o) (ht : isTbl o = false) (hn : H p = none ∨ A p) : Ext A F H (upd F' p o) H' := by
  refine ⟨fun a u q => by rw [upd_ne (ne_of_none (e.sub a u q) hp)]; exact e.sub a u q, e.same, fun a u q => ?_, fun a u q => ?_, fun a u q => ?_⟩
  · by_cases z : a = p
    · subst z; exact .inr hn
    · rw [upd_ne z] at q; exact e.new a u q
  · by_cases z : a = p
    · subst z; rw [upd_same] at q; cases q; exact ho
    · rw [upd_ne z] at q; exact e.inn.sub a u q
  · by_cases z : a = p
    · subst z; rw [upd_same] at q; cases q; exact ht
    · rw [upd_ne z] at q; exact e.inn.plain a u q
theorem sub_upd {F : Hp} {p : Addr} {o : HO} (h : F p = none) : Sub F (upd F p o) := fun a u q => by rw [upd_ne (ne_of_none q h)]; exact q
/-- kept things that are no tables -/
theorem Keeps.rdL {H H' : Hp} (k : Keeps H H') {a : Addr} {u : HO} (h : Rd H a u) (hu : isTbl u = false) : Rd H' a u := by
  rcases h with h | ⟨o, h⟩
  · exact .inl (k.keep _ _ h hu)
  · exact .inr ⟨o, k.keep _ _ h rfl⟩
theorem Keeps.sqL {K : PySem.W.Frag} {H H' : Hp} (k : Keeps H H') {a : Addr} {xs : List V} (h : SqL K H a xs) : SqL K H' a xs := by
  rcases h with h | h
  · exact .inl (k.rdL h rfl)
  · exact .inr h
theorem Keeps.sqT {K : PySem.W.Frag} {H H' : Hp} (k : Keeps H H') {a : Addr} {xs : List V} (h : SqT K H a xs) : SqT K H' a xs := by
  rcases h with h | h
  · exact .inl (k.rdL h rfl)
  · exact .inr h

/-! ### an operand that is looked at: its own container may be no data yet -/
def RepB (K : PySem.W.Frag) (F H : Hp) (v : V) : D → Prop
  | .list ds => ∃ p vs, v = .ref p ∧ Rd H p (.lst vs) ∧ Reps K F vs ds
  | .dict ds => ∃ p kvs, v = .ref p ∧ Rd H p (.dK kvs) ∧ RepK K F kvs ds
  | d => Rep K F v d
theorem Rep.b {K : PySem.W.Frag} {F H : Hp} (s : Sub F H) {v : V} {d : D} (r : Rep K F v d) : RepB K F H v d := by
  cases r with
  | lst h r => exact ⟨_, _, rfl, s.rd h, r⟩
  | dct h r => exact ⟨_, _, rfl, .inl (s _ _ h), r⟩
  | non => exact .non
  | bl b => exact .bl b
  | int i => exact .int i
  | str h => exact .str h
  | tup h r => exact .tup h r
theorem RepB.mono {K : PySem.W.Frag} {F H F' H' : Hp} {A : Addr → Prop} (e : Ext A F H F' H') {v : V} {d : D} (r : RepB K F H v d) : RepB K F' H' v d := by
  cases d with
  | list ds => obtain ⟨p, vs, rfl, h, r⟩ := r; exact ⟨p, vs, rfl, e.same.rdL h rfl, r.mono e.sub⟩
  | dict ds => obtain ⟨p, kvs, rfl, h, r⟩ := r; exact ⟨p, kvs, rfl, e.same.rdL h rfl, r.mono e.sub⟩
  | none => exact Rep.mono e.sub r
  | bool b => exact Rep.mono e.sub r
  | int i => exact Rep.mono e.sub r
  | str x => exact Rep.mono e.sub r
  | tuple ds => exact Rep.mono e.sub r
inductive RepBs (K : PySem.W.Frag) (F H : Hp) : List V → List D → Prop
  | nil : RepBs K F H [] []
  | cons {v : V} {vs : List V} {d : D} {ds : List D} : RepB K F H v d → RepBs K F H vs ds → RepBs K F H (v :: vs) (d :: ds)
theorem RepBs.mono {K : PySem.W.Frag} {F H F' H' : Hp} {A : Addr → Prop} (e : Ext A F H F' H') : ∀ {v : List V} {d : List D}, RepBs K F H v d → RepBs K F' H' v d
  | _, _, .nil => .nil
  | _, _, .cons h r => .cons (h.mono e) (r.mono e)
/-- a result: a new container of its own (at a place that was free in H), or data -/
def RepX (b : Bool) (K : PySem.W.Frag) (H F' H' : Hp) (v : V) (d : D) : Prop :=
  match b, d with
  | true, .list ds => ∃ p vs, v = .ref p ∧ H p = none ∧ F' p = none ∧ H' p = some (.lst vs) ∧ Reps K F' vs ds
  | true, .dict ds => ∃ p kvs, v = .ref p ∧ H p = none ∧ F' p = none ∧ H' p = some (.dK kvs) ∧ RepK K F' kvs ds
  | _, d => Rep K F' v d
theorem RepX.b {fr : Bool} {K : PySem.W.Frag} {H F' H' : Hp} {v : V} {d : D} (s : Sub F' H') (r : RepX fr K H F' H' v d) : RepB K F' H' v d := by
  cases fr with
  | false => exact Rep.b s (by cases d <;> exact r)
  | true =>
    cases d with
    | list ds => obtain ⟨p, vs, rfl, _, _, h, r⟩ := r; exact ⟨p, vs, rfl, .inl h, r⟩
    | dict ds => obtain ⟨p, vs, rfl, _, _, h, r⟩ := r; exact ⟨p, vs, rfl, .inl h, r⟩
    | none => exact Rep.b s r
    | bool b => exact Rep.b s r
    | int i => exact Rep.b s r
    | str x => exact Rep.b s r
    | tuple ds => exact Rep.b s r
/-- counted as data -/
theorem RepX.froz {fr : Bool} {K : PySem.W.Frag} {A : Addr → Prop} {F H F' H' : Hp} {v : V} {d : D} (e : Ext A F H F' H') (r : RepX fr K H F' H' v d) : ∃ F2, Ext A F H F2 H' ∧ Sub F' F2 ∧ Rep K F2 v d := by
  cases fr with
  | false => exact ⟨F', e, Sub.refl _, by cases d <;> exact r⟩
  | true =>
    cases d with
    | list ds =>
      obtain ⟨p, vs, rfl, h0, h1, h2, r⟩ := r
      exact ⟨_, e.freeze h1 h2 rfl (.inl h0), sub_upd h1, .lst (.inl upd_same) (r.mono (sub_upd h1))⟩
    | dict ds =>
      obtain ⟨p, vs, rfl, h0, h1, h2, r⟩ := r
      exact ⟨_, e.freeze h1 h2 rfl (.inl h0), sub_upd h1, .dct upd_same (r.mono (sub_upd h1))⟩
    | none => exact ⟨F', e, Sub.refl _, r⟩
    | bool b => exact ⟨F', e, Sub.refl _, r⟩
    | int i => exact ⟨F', e, Sub.refl _, r⟩
    | str x => exact ⟨F', e, Sub.refl _, r⟩
    | tuple ds => exact ⟨F', e, Sub.refl _, r⟩
theorem Rep.x {K : PySem.W.Frag} {H F' H' : Hp} {v : V} {d : D} (r : Rep K F' v d) : RepX false K H F' H' v d := by cases d <;> exact r
theorem Rep.xf {fr : Bool} {K : PySem.W.Frag} {H F' H' : Hp} {v : V} {d : D} (hd : isCont d = false) (r : Rep K F' v d) : RepX fr K H F' H' v d := by
  cases fr with
  | false => exact r.x
  | true => cases d <;> first | exact r | cases hd
/-- seen from an earlier heap -/
theorem RepX.early {fr : Bool} {K : PySem.W.Frag} {H0 H F' H' : Hp} {v : V} {d : D} (k : Keeps H0 H) (r : RepX fr K H F' H' v d) : RepX fr K H0 F' H' v d := by
  cases fr with
  | false => cases d <;> exact r
  | true =>
    cases d with
    | list ds => obtain ⟨p, vs, h, h0, r⟩ := r; exact ⟨p, vs, h, k.free h0, r⟩
    | dict ds => obtain ⟨p, vs, h, h0, r⟩ := r; exact ⟨p, vs, h, k.free h0, r⟩
    | none => exact r
    | bool b => exact r
    | int i => exact r
    | str x => exact r
    | tuple ds => exact r

/-! ### the names -/
def OwnOk (K : PySem.W.Frag) (F H : Hp) (v : V) : D → Prop
  | .list ds => ∃ p vs, v = .ref p ∧ H p = some (.lst vs) ∧ Reps K F vs ds ∧ (F p = none ∨ F p = some (.lst vs))
  | .dict ds => ∃ p kvs, v = .ref p ∧ H p = some (.dK kvs) ∧ RepK K F kvs ds ∧ (F p = none ∨ F p = some (.dK kvs))
  | _ => False
def LckOk (K : PySem.W.Frag) (F H : Hp) (v : V) : D → Prop
  | .dict ds => ∃ p kvs o, v = .ref p ∧ H p = some (.frz o (.dK kvs)) ∧ RepK K F kvs ds ∧ F p = none
  | _ => False
def SlOk (K : PySem.W.Frag) (F H : Hp) (v : V) : Sl → Prop
  | .dat d => Rep K F v d
  | .own d => OwnOk K F H v d
  | .lck d => LckOk K F H v d
/-- the tables of the defs that hold a lambda -/
def tabCP (K : PySem.W.Frag) (x : Str) : Option (Addr × Addr) := match K.lookup (He.ga K x) with
  | some ⟨_, _, .func fd, _⟩ => (match fd.code with
    | .ref c => (match K.lookup c with
      | some ⟨_, _, .fields vs, _⟩ => (match (vs[11]? : Option Value) with
        | some (.ref P) => some (c, P)
        | _ => none)
      | _ => none)
    | _ => none)
  | _ => none
def tabOf (K : PySem.W.Frag) (x : Str) : Option Addr := (tabCP K x).map (·.2)
def lamNames : List Str := ["record_with", "law"]
def TabsK (K : PySem.W.Frag) (H : Hp) : Prop := ∀ x ∈ lamNames, ∀ P, tabOf K x = some P → TabO H P
theorem TabsK.mono {K : PySem.W.Frag} {H H' : Hp} (t : TabsK K H) (k : Keeps H H') : TabsK K H' := fun x hx P h => k.tab P (t x hx P h)
structure StOk (K : PySem.W.Frag) (F H : Hp) (σ : St) (ρ : Env) : Prop where
  len : ρ.length = σ.length
  tab : TabsK K H
  ok : ∀ i s, ρ.at i = some s → ∃ v, σ[i]? = some (some v) ∧ SlOk K F H v s
def EscA (σ : St) (ρ : Env) (js : List Nat) (a : Addr) : Prop := ∃ j ∈ js, (∃ d, ρ.at j = some (.own d)) ∧ σ[j]? = some (some (.ref a))
theorem EscA.mono {σ : St} {ρ : Env} {js ks : List Nat} (h : ∀ j ∈ js, j ∈ ks) {a : Addr} (e : EscA σ ρ js a) : EscA σ ρ ks a := by
  obtain ⟨j, hj, r⟩ := e
  exact ⟨j, h j hj, r⟩
/-- an own thing survives a step that reads it, and one that does not let it out; a locked one is not counted as data -/
theorem StOk.mono {K : PySem.W.Frag} {F H F' H' : Hp} {σ : St} {ρ : Env} {js : List Nat} (st : StOk K F H σ ρ) (e : Ext (EscA σ ρ js) F H F' H') (inn : Inn F H)
    (lk : ∀ a, EscA σ ρ js a → ∀ o u, H a ≠ some (.frz o u)) : StOk K F' H' σ ρ := by
  refine ⟨st.len, st.tab.mono e.same, fun i s h => ?_⟩
  obtain ⟨v, hv, sl⟩ := st.ok i s h
  refine ⟨v, hv, ?_⟩
  cases s with
  | dat d => exact Rep.mono e.sub sl
  | own d =>
    cases d with
    | list ds =>
      obtain ⟨p, vs, rfl, hp, r, hF⟩ := sl
      have hp' := e.same.keep p _ hp rfl
      refine ⟨p, vs, rfl, hp', r.mono e.sub, ?_⟩
      cases q : F' p with
      | none => exact .inl rfl
      | some o => exact .inr (by have := e.inn.sub p o q; rw [hp'] at this; exact this.symm)
    | dict ds =>
      obtain ⟨p, vs, rfl, hp, r, hF⟩ := sl
      have hp' := e.same.keep p _ hp rfl
      refine ⟨p, vs, rfl, hp', r.mono e.sub, ?_⟩
      cases q : F' p with
      | none => exact .inl rfl
      | some o => exact .inr (by have := e.inn.sub p o q; rw [hp'] at this; exact this.symm)
    | none => exact sl
    | bool b => exact sl
    | int i => exact sl
    | str x => exact sl
    | tuple ds => exact sl
  | lck d =>
    cases d with
    | dict ds =>
      obtain ⟨p, vs, o, rfl, hp, r, hF⟩ := sl
      have hp' := e.same.keep p _ hp rfl
      refine ⟨p, vs, o, rfl, hp', r.mono e.sub, ?_⟩
      cases q : F' p with
      | none => rfl
      | some z =>
        rcases e.new p z q with w | w | w
        · rw [hF] at w; cases w
        · rw [hp] at w; cases w
        · exact absurd hp (lk p w o _)
    | list ds => exact sl
    | none => exact sl
    | bool b => exact sl
    | int i => exact sl
    | str x => exact sl
    | tuple ds => exact sl
/-- what is let out is no locked thing -/
theorem StOk.lk {K : PySem.W.Frag} {F H : Hp} {σ : St} {ρ : Env} (st : StOk K F H σ ρ) (js : List Nat) : ∀ a, EscA σ ρ js a → ∀ o u, H a ≠ some (.frz o u) := by
  rintro a ⟨j, _, ⟨d, hd⟩, hs⟩ o u hu
  obtain ⟨v, hv, sl⟩ := st.ok j _ hd
  rw [hs] at hv
  cases hv
  cases d with
  | list ds => obtain ⟨p, vs, e, hp, _⟩ := sl; cases e; rw [hp] at hu; cases hu
  | dict ds => obtain ⟨p, vs, e, hp, _⟩ := sl; cases e; rw [hp] at hu; cases hu
  | none => exact sl
  | bool b => exact sl
  | int i => exact sl
  | str x => exact sl
  | tuple ds => exact sl
theorem StOk.ext {K : PySem.W.Frag} {F H F' H' : Hp} {σ : St} {ρ : Env} {js : List Nat} (st : StOk K F H σ ρ) (e : Ext (EscA σ ρ js) F H F' H') (inn : Inn F H) : StOk K F' H' σ ρ := st.mono e inn (st.lk js)
theorem EscA.nil {σ : St} {ρ : Env} {a : Addr} (h : EscA σ ρ [] a) : Nil a := by obtain ⟨j, hj, _⟩ := h; cases hj
theorem Ext.nil {σ : St} {ρ : Env} {F H F' H' : Hp} {js : List Nat} (e : Ext Nil F H F' H') : Ext (EscA σ ρ js) F H F' H' := e.mono fun _ h => h.elim

/-! ### an answer, or an exception, behind a step -/
section
variable (W : Str → St → Hp → Prop)
def After {α : Type} (A : Addr → Prop) (F H : Hp) (σ : St) (r : Res α) (k : α → Hp → Hp → Prop) : Prop := match r with
  | .ok a => ∀ F' H', Ext A F H F' H' → k a F' H'
  | .exc c => ∀ F' H', Ext A F H F' H' → W c σ H'
  | .bad => False
end
variable {W : Str → St → Hp → Prop}
theorem After.map {α : Type} {A : Addr → Prop} {F H : Hp} {σ : St} {r : Res α} {k k' : α → Hp → Hp → Prop} (h : After W A F H σ r k) (f : ∀ a F' H', Ext A F H F' H' → k a F' H' → k' a F' H') : After W A F H σ r k' := by
  cases r with
  | ok a => exact fun F' H' e => f a F' H' e (h F' H' e)
  | exc c => exact h
  | bad => exact h
/-- the same, with another count of what is data -/
theorem After.re {α : Type} {A : Addr → Prop} {F H : Hp} {σ : St} {r : Res α} {k k' : α → Hp → Hp → Prop} (h : After W A F H σ r k) (f : ∀ a F' H', Ext A F H F' H' → (∀ F2, Ext A F H F2 H' → k a F2 H') → k' a F' H') : After W A F H σ r k' := by
  cases r with
  | ok a => exact fun F' H' e => f a F' H' e fun F2 e2 => h F2 H' e2
  | exc c => exact h
  | bad => exact h
theorem After.less {α : Type} {A B : Addr → Prop} {F H : Hp} {σ : St} {r : Res α} {k : α → Hp → Hp → Prop} (h : After W A F H σ r k) (f : ∀ a, B a → A a) : After W B F H σ r k := by
  cases r with
  | ok a => exact fun F' H' e => h F' H' (e.mono f)
  | exc c => exact fun F' H' e => h F' H' (e.mono f)
  | bad => exact h
theorem After.later {α : Type} {A B : Addr → Prop} {F H F1 H1 : Hp} {σ : St} {r : Res α} {k : α → Hp → Hp → Prop} (h : After W A F H σ r k) (e : Ext B F H F1 H1) (f : ∀ a, B a → A a) : After W A F1 H1 σ r k := by
  cases r with
  | ok a => exact fun F' H' e' => h F' H' (e.trans e' f fun _ x => x)
  | exc c => exact fun F' H' e' => h F' H' (e.trans e' f fun _ x => x)
  | bad => exact h
/-- one step behind another -/
theorem After.bind {α β : Type} {A A1 A2 : Addr → Prop} {F H : Hp} {σ : St} {r : Res α} {f : α → Res β} {k : β → Hp → Hp → Prop} (h : After W A F H σ (r.bind f) k) (h1 : ∀ a, A1 a → A a) (h2 : ∀ a, A2 a → A a) :
    After W A1 F H σ r (fun a F1 H1 => After W A2 F1 H1 σ (f a) k) := by
  cases r with
  | ok a => exact fun F1 H1 e => (After.later (r := f a) h e h1).less h2
  | exc c => exact fun F1 H1 e => h F1 H1 (e.mono h1)
  | bad => exact h
theorem After.of {α : Type} {A : Addr → Prop} {F H : Hp} {σ : St} {o : Option α} {k : α → Hp → Hp → Prop} (h : After W A F H σ (Res.of o) k) : ∃ a, o = some a ∧ ∀ F' H', Ext A F H F' H' → k a F' H' := by
  cases o with
  | some a => exact ⟨a, rfl, h⟩
  | none => exact h.elim
theorem After.ok {α : Type} {A : Addr → Prop} {F H : Hp} {σ : St} {a : α} {k : α → Hp → Hp → Prop} (h : After W A F H σ (.ok a) k) (i : Inn F H) : k a F H := h F H (Ext.refl i)
end G7

namespace G7
open L2 PyProof.Rows PySem.Spec PySem
/-! ### a lambda that takes a pair's first, called -/
section
variable {prog : Program} {w : World} {A : Around} {R : Result → Shared → Prop} {s : Shared} {E : Value → Shared → Prop}
theorem lam_enter {a : Addr} {args : Args} {o : Obj} {fd : FuncData} {body : Expr} {q : Str} (hroom : A.depth < recursionLimit) (ho : s.heap.get? a = some o)
    (hd' : o.data = .func fd) (hco : fd.scope.isCoroutine = false) (hgen : fd.scope.isGenerator = false) (hbody : fd.body = .expr body) (hcd : s.heap.CodeRec fd.code q)
    (h : wpAny (model prog w) A.in1 (bindArgs fd args) (fun binds s₁ =>
      wpAny (model prog w) A.in1 (newFunctionEnv fd.scope fd.globals fd.closure binds (q ++ ".<locals>.") (some a) fd.code none fd.builtins)
        (fun env s₂ => s₂.heap.NoLimit ∧ codeAny (model prog w) A (.expr body env) R s₂) (fun e s' => R (.error e) s') s₁) (fun e s' => R (.error e) s') s) :
    codeAny (model prog w) A (.call (.ref a) args) R s := by
  refine codeAny_of_tree ?_
  show wpAny _ A.in1 (callAny (.ref a) args) _ _ s
  simp only [callAny]
  refine wpAny_bind (wpAny_load ho ?_)
  obtain ⟨c, oc, vs, tq, hc, hoc, hdc, hq⟩ := hcd
  simp only [hd', callFunction, hco, hgen, hbody, hc]
  rw [hc] at h
  refine wpAny_bind (m := field (.ref c) 1) (wpAny_field hoc hdc hq (wpAny_bind (wpAny_pure ?_)))
  exact wpAny_bind (wpAny_mono h (fun binds s₁ h₁ => wpAny_bind (wpAny_mono h₁ (fun env s₂ h₂ => wpAny_bind (wpAny_enterFrame h₂.1 hroom
    (wpAny_pure (And.intro rfl h₂.2)))) fun _ _ h' => h')) fun _ _ h' => h')
/-- the lambda's text -/
structure LamT (params : Arguments) (body : Expr) (scope : Scope) : Prop where
  kind : scope.kind = .function
  co : scope.isCoroutine = false
  gen : scope.isGenerator = false
  own : ∀ y ∈ scope.names, y.2 ≠ .cell ∧ y.2 ≠ .free
  text : ∃ (j : Nat) (p1 p2 p3 pa : Pos), params = { posonlyargs := [], args := [{ arg := "pair", annotation := none, pos := pa }], vararg := none, kwonlyargs := [], kw_defaults := [], kwarg := none, defaults := [] } ∧ body = .Subscript (.Name "pair" p1) (.Constant (.int 0) j p2) p3 ∧ scope.names.lookup ("pair" : Str) = some .local
def lamTB (params : Arguments) (body : Expr) (scope : Scope) : Bool := decide (scope.kind = .function) && !scope.isCoroutine && !scope.isGenerator && (scope.names.all fun y => !decide (y.2 = .cell) && !decide (y.2 = .free)) && (match params, body with
  | { posonlyargs := [], args := [{ arg := x, annotation := none, pos := _ }], vararg := none, kwonlyargs := [], kw_defaults := [], kwarg := none, defaults := [] }, .Subscript (.Name y _) (.Constant (.int 0) _ _) _ => decide (x = "pair") && decide (y = "pair") && decide (scope.names.lookup ("pair" : Str) = some .local)
  | _, _ => false)
theorem lamT_by {params : Arguments} {body : Expr} {scope : Scope} (h : lamTB params body scope = true) : LamT params body scope := by
  unfold lamTB at h
  simp only [Bool.and_eq_true, decide_eq_true_eq, Bool.not_eq_true', List.all_eq_true, decide_eq_false_iff_not] at h
  obtain ⟨⟨⟨⟨h1, h2⟩, h3⟩, h4⟩, h5⟩ := h
  refine ⟨h1, h2, h3, h4, ?_⟩
  split at h5
  · simp only [Bool.and_eq_true, decide_eq_true_eq] at h5
    obtain ⟨⟨e, e2⟩, h6⟩ := h5
    subst e e2
    exact ⟨_, _, _, _, _, rfl, rfl, h6⟩
  · cases h5
theorem lam_call {f c' t : Addr} {q q' : Str} {params : Arguments} {body : Expr} {scope : Scope} {cl : List (Str × Addr)} {pm ctv : Value} {items : Array Value} {k : Str} {tk : Tok} {Q : Value → Shared → Prop} (L : LamT params body scope)
    (hroom : A.depth < recursionLimit) (hf : s.heap.get? f = some (PySem.W.kla_obj "<lambda>" q params body scope cl pm c' ctv)) (hc : s.heap.CodeRec (.ref c') q') (hlim : s.heap.NoLimit)
    (ht : IsTup s.heap t items) (h0 : items[0]? = some (.str k tk)) (h : ∀ h' tk', (∀ b o, s.heap.get? b = some o → h'.get? b = some o) → Q (.str k tk) { s with heap := h', toks := tk' }) :
    wpAny (model prog w) A (call (.ref f) [.ref t]) Q E s := by
  obtain ⟨j, p1, p2, p3, pa, rfl, rfl, hx⟩ := L.text
  refine wpAny_call (lam_enter (R := fun r s' => match r with | .ok (.ret v) => Q v s' | .ok _ => False | .error e => E e s') hroom hf rfl L.co L.gen rfl hc ?_)
  have hb : bindArgs (PySem.W.kla_fn "<lambda>" q { posonlyargs := [], args := [{ arg := "pair", annotation := none, pos := pa }], vararg := none, kwonlyargs := [], kw_defaults := [], kwarg := none, defaults := [] } (.Subscript (.Name "pair" p1) (.Constant (.int 0) j p2) p3) scope cl pm (.ref c') ctv) ⟨[.ref t], []⟩ = pure [(("pair" : Str), Value.ref t)] := rfl
  rw [hb]
  refine wpAny_pure (wpAny_newFunctionEnv (fun y hy => (L.own y hy).1) (fun y hy => ?_) (fun h₁ hns hsb => ⟨hlim.fresh _ hsb, ?_⟩) L.kind)
  · simp only [List.mem_singleton] at hy
    subst hy
    exact hx
  have kp : ∀ b o, s.heap.get? b = some o → h₁.get? b = some o := fun b o e => hsb.extBut b o (Nat.ne_of_lt (Heap.lt_size e)) (Heap.get?_push_of_some _ e)
  refine PySem.W.kla_codeExpr ?_
  have hT : IsTup h₁ t items := by
    obtain ⟨o, ho, r⟩ := ht
    exact ⟨o, kp _ _ ho, r⟩
  refine Subscript_ (wpAny_Name (wpAny_loadName_local (v := .ref t) L.kind hx hns ?_ (wpAny_Constant_int ?_)))
  · simp [List.lookup]
  · refine subscriptTail_builtinR (x := .str k tk) hT.typeIs slot_tuple_getitem.lookup (getItem_tuple (j := 0) (Q := fun r s' => r = .str k tk ∧ _) hT (by omega) (by omega) ?_ h0 ⟨rfl, ?_⟩) rfl
    · rw [seqIndex_of (by omega) ?_]
      · rfl
      · have := Array.getElem?_eq_some_iff.mp h0
        obtain ⟨z, _⟩ := this
        omega
    · exact h h₁ _ kp
end
end G7

namespace G7
open L2 PyProof.Rows PySem.Spec PySem
/-! ### new tuples, with their own object known -/
section
variable {X : Cx}
theorem objT {H : Hp} {h : Heap} {xs : List V} {us : List Value} {n : Nat} (z : xs.length ≤ sizeLine) (r : Vals xs us) : ObjOk X.prog X.w H (h.push { cls := .type "tuple", data := .seq us.toArray n }) h.objs.size (TupO { cls := .type "tuple", data := .seq us.toArray n } xs) :=
  ⟨Heap.get?_push_size _ rfl, z, us, r, ⟨_, Heap.get?_push_size _ rfl, rfl, _, rfl⟩⟩
theorem laidT {pins : List (Addr × Obj)} {σ : St} {H : Hp} {s : Shared} {xs : List V} {us : List Value} {n t : Nat} {Q : VK} (I : Inv X pins σ H s) (z : xs.length ≤ sizeLine) (r : Vals xs us)
    (q : ∀ p o, o.dict = none → H p = none → Q (.ref p) (upd H p (TupO o xs))) : EP X pins σ Q (.ref s.heap.objs.size) { s with heap := s.heap.push { cls := .type "tuple", data := .seq us.toArray n }, toks := t } :=
  ⟨.ref s.heap.objs.size, _, I.laid (t' := t) (fun b u e => Heap.get?_push_of_some _ e) (Nat.le_refl _) (objT z r), rfl, q _ _ rfl (I.hok.fresh (Nat.le_refl _))⟩
def tTupP (t : TA) : TE := fun σ H Q => t σ H fun xs H1 => xs.length ≤ sizeLine ∧ ∀ p o, o.dict = none → H1 p = none → Q (.ref p) (upd H1 p (TupO o xs))
theorem pe_tupP {es : List Expr} {t : TA} {x1 : Nat} {pos : Pos} (h : PA X es t) : PE X (.Tuple es x1 pos) (tTupP t) := by
  refine ⟨fun pins s σ H Q I hq => ?_⟩
  exact wpAny_Tuple_spliced (thn (h.run pos pins s σ H _ I hq) fun us s1 ⟨xs, H1, I1, r, z, q⟩ => ⟨by rw [← r.length]; exact z, laidT (t := s1.toks) I1 z r q⟩)
theorem call_tupleP : CallR X (.type "tuple") (fun xs H Q => ∃ p ys, xs = [.ref p] ∧ ((SqL X.K H p ys ∧ ∀ l o, o.dict = none → H l = none → Q (.ref l) (upd H l (TupO o ys))) ∨ (SqT X.K H p ys ∧ Q (.ref p) H))) := by
  intro pins s σ H xs us Q I r h
  obtain ⟨p, ys, rfl, h⟩ := h
  obtain ⟨u, rfl, rx⟩ := vals1 r
  cases rx
  rcases h with ⟨hq, q⟩ | ⟨hq, q⟩
  · obtain ⟨its, r', pl, hz⟩ := I.list hq
    have hlen := r'.length
    refine call_tuple_list pl.isList (fun h' kp => ?_) (by simp only [List.size_toArray] <;> omega)
    exact laidT (s := { s with heap := h' }) (t := s.toks) (I.kept (t' := s.toks) kp) hz r' q
  · obtain ⟨its, r', pl, hz⟩ := I.tuple hq
    exact call_tuple_same pl ⟨.ref p, H, I, rfl, q⟩
def rCatP (K : PySem.W.Frag) : R2 := fun x y H Q => ∃ a b xs ys, x = .ref a ∧ y = .ref b ∧ SqT K H a xs ∧ SqT K H b ys ∧ xs.length + ys.length ≤ sizeLine ∧
  (xs = [] → Q (.ref b) H) ∧ (xs ≠ [] → ys = [] → Q (.ref a) H) ∧ (xs ≠ [] → ys ≠ [] → ∀ p o, o.dict = none → H p = none → Q (.ref p) (upd H p (TupO o (xs ++ ys))))
theorem op_catP : OpR X (binaryOp .Add) (rCatP X.K) := by
  intro pins s σ H x y v u Q I rx ry h
  obtain ⟨a, b, xs, ys, rfl, rfl, ha, hb, hz, q0, q1, q2⟩ := h
  cases rx
  cases ry
  obtain ⟨its, r1, p1, _⟩ := I.tuple ha
  obtain ⟨its2, r2, p2, _⟩ := I.tuple hb
  by_cases hx : xs = []
  · subst hx
    cases r1
    exact cat_tup0 p1 p2 ⟨.ref b, H, I, rfl, q0 rfl⟩
  · refine HT.cat_tup p1 p2 (fun z => hx (r1.nil_iff.mp z)) (fun z => ⟨.ref a, H, I, rfl, q1 hx (r2.nil_iff.mp z)⟩) (fun z => ?_) (by rw [← r1.length, ← r2.length]; exact hz)
    exact laidT (t := s.toks) I (by rw [List.length_append]; exact hz) (r1.append r2) (q2 hx fun w => z (r2.nil_iff.mpr w))
def rSlP (K : PySem.W.Frag) : V → Option Int → Option Int → Hp → VK → Prop := fun x lo hi H Q => ∃ a xs, x = .ref a ∧ SqT K H a xs ∧
  (HT.sIx xs.length 0 lo = 0 ∧ HT.sIx xs.length xs.length hi = xs.length → Q (.ref a) H) ∧ (¬ (HT.sIx xs.length 0 lo = 0 ∧ HT.sIx xs.length xs.length hi = xs.length) → ∀ p o, o.dict = none → H p = none → Q (.ref p) (upd H p (TupO o (cutV xs lo hi))))
theorem sl_tupP : SlR X (rSlP X.K) := by
  intro pins s σ H x v vl vu lo hi sl Q I rx hs pl pu h
  obtain ⟨a, xs, rfl, hx, q1, q2⟩ := h
  cases rx
  obtain ⟨its, r, ht, hz⟩ := I.tuple hx
  have hlen : its.toArray.size = xs.length := by rw [List.size_toArray]; exact r.length.symm
  refine ⟨"tuple", _, PyProof.Rows.slot_tuple_getitem.lookup, ht.typeIs, ?_⟩
  by_cases hw : HT.sIx xs.length 0 lo = 0 ∧ HT.sIx xs.length xs.length hi = xs.length
  · exact getItem_tuple_whole ht hs pl pu (by rw [hlen]; exact hw) ⟨.ref a, H, I, rfl, q1 hw⟩
  · refine HT.getItem_tuple_cut ht hs pl pu (by rw [hlen]; exact hw) ?_ (by rw [hlen]; exact hz)
    rw [hlen]
    exact laidT (xs := cutV xs lo hi) (t := s.toks) I (Nat.le_trans (cutV_length xs lo hi) hz) ((r.drop (HT.sIx xs.length 0 lo)).take (HT.sIx xs.length xs.length hi - HT.sIx xs.length 0 lo)) (q2 hw)
theorem rep_tupleN {pins : List (Addr × Obj)} {s : Shared} {σ : St} {H : Hp} {a : Addr} {xs : List V} {k : Int} {t : Tok} {Q : VK} (I : Inv X pins σ H s) (ha : SqT X.K H a xs) (hz : xs.length = 1) (h2 : 2 ≤ k) (h3 : k ≤ 1000)
    (q : ∀ p o, o.dict = none → H p = none → Q (.ref p) (upd H p (TupO o (List.replicate k.toNat xs).flatten))) : wpAny (model X.prog X.w) X.A (binaryOp .Mult (.ref a) (.int k t)) (EP X pins σ Q) X.xe s := by
  obtain ⟨its, r, ⟨⟨cls, dd, data, sl⟩, ho, hc, n, hd⟩, hs⟩ := I.tuple ha
  simp only at hc hd
  subst hc hd
  have hle : its.length = 1 := by rw [← r.length]; exact hz
  have hi : its.toArray.isEmpty = false := by
    cases its with
    | nil => cases hle
    | cons a b => rfl
  have hs1 : its.toArray.size = 1 := by rw [List.size_toArray, hle]
  have fl : ∀ {α : Type} (l : List α), l.length = 1 → (List.replicate k.toNat l).flatten.length ≤ 1000 := fun l hl => by
    rw [PyProof.Rows.lm_len_rep_flat, hl]
    omega
  have c0 : (decide (k < -(2 ^ 63)) || decide (k ≥ 2 ^ 63)) = false := by
    rw [decide_eq_false (by omega), decide_eq_false (by omega)] <;> rfl
  have c1 : (its.toArray.isEmpty || k == 1) = false := by
    rw [hi, Bool.false_or]
    exact beq_eq_false_iff_ne.mpr (by omega)
  have c2 : (decide (k ≤ 0) || its.toArray.isEmpty) = false := by
    rw [hi, Bool.or_false]
    exact decide_eq_false (by omega)
  have c4 : Builtin.Tuple.tupleTooMany (((its.toArray.size : Nat) : Int) * k) = false := by
    unfold Builtin.Tuple.tupleTooMany
    rw [sizeLine_eq]
    exact decide_eq_false (by rw [hs1]; omega)
  have big : (1000 : Nat) ≤ sizeLine := by decide
  refine wpAny_binaryOp_repeat_ref (T := "tuple") (U := "int") (by decide) ⟨_, ho, rfl⟩ (fun s' => typeIs_int s' k t) noFill_tuple_mul F.fills_int_mul F.slot_int_rmul repeat_tuple F.slot_int_index.lookup
    (call_meets F.slot_int_rmul (typeIs_int s k t) F.entry_int_rmul (F.args_int_rmul_2 _ _) (int_rmul_tuple k t a its.toArray n dd sl)
      ⟨ho, rfl, ⟨_, ho, rfl⟩, call_meets F.slot_tuple_mul ⟨_, ho, rfl⟩ F.entry_tuple_mul (F.args_tuple_mul_2 _ _) (tuple_mulW a its.toArray n dd sl k t c0 c1 c2 (by rw [hs1]; omega) c4 (by rw [size_rep, List.size_toArray]; exact Nat.le_trans (fl its hle) big)) ⟨ho, ?_⟩⟩)
  rw [size_rep]
  exact laidT (t := s.toks) I (Nat.le_trans (fl xs hz) big) (r.rep k.toNat) q
end
end G7

namespace G7
open L2 PyProof.Rows PySem.Spec PySem

/-! ### texts that are whole -/
theorem strOk_iff {x : Str} : PySem.PyData.strOk x = true ↔ ∀ c ∈ x.cps.toList, c < 0x110000 := by
  unfold PySem.PyData.strOk
  rw [← Array.all_toList, List.all_eq_true]
  simp
theorem SOk.append {a b : Str} (ha : SOk a) (hb : SOk b) (h : a.length + b.length ≤ sizeLine) : SOk (a ++ b) := by
  refine ⟨?_, strOk_iff.mpr fun c hc => ?_⟩
  · show (a.cps ++ b.cps).size ≤ _
    rw [Array.size_append]; exact h
  · have hc : c ∈ (a.cps ++ b.cps).toList := hc
    rw [Array.toList_append, List.mem_append] at hc
    exact hc.elim (strOk_iff.mp ha.2 c) (strOk_iff.mp hb.2 c)
theorem SOk.of_sub {a : Str} (ha : SOk a) {l : List Nat} (hl : l.length ≤ sizeLine) (hs : ∀ c ∈ l, c ∈ a.cps.toList) : SOk ⟨l.toArray⟩ :=
  ⟨by show l.toArray.size ≤ _; simpa using hl, strOk_iff.mpr fun c hc => strOk_iff.mp ha.2 c (hs c (by simpa using hc))⟩

section
variable {K : PySem.W.Frag} {F H : Hp} {v : V}
theorem RepB.non_inv (r : RepB K F H v .none) : v = .non := by
  have r : Rep K F v .none := r
  cases r; rfl
theorem RepB.bool_inv {b : Bool} (r : RepB K F H v (.bool b)) : v = .bl b := by
  have r : Rep K F v (.bool b) := r
  cases r; rfl
theorem RepB.int_inv {i : Int} (r : RepB K F H v (.int i)) : v = .int i := by
  have r : Rep K F v (.int i) := r
  cases r; rfl
theorem RepB.str_inv {x : Str} (r : RepB K F H v (.str x)) : v = .str x ∧ SOk x := by
  have r : Rep K F v (.str x) := r
  cases r with
  | str h => exact ⟨rfl, h⟩
theorem RepB.tup_inv {ds : List D} (r : RepB K F H v (.tuple ds)) : ∃ a vs, v = .ref a ∧ TupP K F a vs ∧ Reps K F vs ds := by
  have r : Rep K F v (.tuple ds) := r
  cases r with
  | tup h r => exact ⟨_, _, rfl, h, r⟩
end

/-- an operator by data -/
def rD (K : PySem.W.Frag) (f : D → D → Option D) (fr : Bool) : R2 := fun x y H Q => ∃ F d1 d2 d, Inn F H ∧ RepB K F H x d1 ∧ RepB K F H y d2 ∧ f d1 d2 = some d ∧
  ∀ v F' H', Ext Nil F H F' H' → RepX fr K H F' H' v d → Q v H'
section
variable {X : Cx}
/-- list + list, any lists -/
theorem cat_lists {pins : List (Addr × Obj)} {s : Shared} {σ : St} {H : Hp} {a b : Addr} {xs ys : List V} {Q : VK} (I : Inv X pins σ H s) (ha : SqL X.K H a xs) (hb : SqL X.K H b ys) (hz : xs.length + ys.length ≤ sizeLine)
    (q : ∀ p, H p = none → Q (.ref p) (upd H p (.lst (xs ++ ys)))) : wpAny (model X.prog X.w) X.A (binaryOp .Add (.ref a) (.ref b)) (EP X pins σ Q) X.xe s := by
  obtain ⟨its, r, ⟨⟨cls, dd, data, sl⟩, n, e, hc, hdn, hd⟩, _⟩ := I.list ha
  obtain ⟨its2, r2, ⟨⟨cls2, dd2, data2, sl2⟩, n2, e2, hc2, hdn2, hd2⟩, _⟩ := I.list hb
  simp only at hc hd hc2 hd2 hdn hdn2
  subst hc hd hc2 hd2
  have hl := r.length
  have hl2 := r2.length
  refine concat_meets ⟨_, e, rfl⟩ ⟨_, e2, rfl⟩ noFill_list_add seq_list_add PySem.F.slot_list_add PySem.F.entry_list_add (PySem.F.args_list_add_2 _ _) (list_addW a b its.toArray its2.toArray n n2 dd dd2 sl sl2 (by rw [List.size_toArray, List.size_toArray]; omega)) ⟨e, e2, ?_⟩
  have ea : its.toArray ++ its2.toArray = (its ++ its2).toArray := by simp
  rw [ea]
  exact ⟨.ref _, _, I.lnew (t' := s.toks) (r.append r2) (by rw [List.length_append]; omega), rfl, q _ I.fresh⟩
theorem op_addD : OpR X (binaryOp .Add) (rD X.K addD true) := by
  intro pins s σ H x y v u Q I rx ry h
  obtain ⟨F, d1, d2, d, inn, r1, r2, e, k⟩ := h
  cases d1 with
  | int a =>
    cases d2 with
    | int b =>
      cases r1.int_inv; cases r2.int_inv
      cases (Option.some.inj e)
      exact op_add pins s σ H _ _ v u Q I rx ry ⟨a, b, rfl, rfl, k _ F H (Ext.refl inn) (Rep.int _)⟩
    | _ => cases e
  | str a =>
    cases d2 with
    | str b =>
      obtain ⟨rfl, ha⟩ := r1.str_inv
      obtain ⟨rfl, hb⟩ := r2.str_inv
      have e : (if a.length + b.length ≤ sizeLine then some (PyData.str (a ++ b)) else none) = some d := e
      split at e
      · rename_i hz
        cases (Option.some.inj e)
        exact op_add_str pins s σ H _ _ v u Q I rx ry ⟨a, b, rfl, rfl, hz, k _ F H (Ext.refl inn) (Rep.str (ha.append hb hz))⟩
      · cases e
    | _ => cases e
  | tuple a =>
    cases d2 with
    | tuple b =>
      obtain ⟨p, vs, rfl, hp, rs⟩ := r1.tup_inv
      obtain ⟨q, us, rfl, hq, ru⟩ := r2.tup_inv
      have e : (if a.length + b.length ≤ sizeLine then some (PyData.tuple (a ++ b)) else none) = some d := e
      split at e
      · rename_i hz
        cases (Option.some.inj e)
        refine op_catP pins s σ H _ _ v u Q I rx ry ⟨p, q, vs, us, rfl, rfl, inn.sub.sqT hp.sqT, inn.sub.sqT hq.sqT, by rw [rs.length, ru.length]; exact hz, fun h0 => ?_, fun h0 h1 => ?_, fun h0 h1 z o ho hz' => ?_⟩
        · subst h0
          cases rs
          exact k _ F H (Ext.refl inn) (Rep.tup hq ru)
        · subst h1
          cases ru
          rw [List.append_nil] at k
          exact k _ F H (Ext.refl inn) (Rep.tup hp rs)
        · have s1 : Sub F (upd F z (TupO o (vs ++ us))) := sub_upd (inn.free hz')
          exact k _ (upd F z (TupO o (vs ++ us))) _ (Ext.laidF inn hz' rfl) (Rep.tup (TupP.new ho) ((rs.append ru).mono s1))
      · cases e
    | _ => cases e
  | list a =>
    cases d2 with
    | list b =>
      obtain ⟨p, vs, rfl, hp, rs⟩ := r1
      obtain ⟨q, us, rfl, hq, ru⟩ := r2
      have e : (if a.length + b.length ≤ sizeLine then some (PyData.list (a ++ b)) else none) = some d := e
      split at e
      · rename_i hz
        cases (Option.some.inj e)
        cases rx; cases ry
        refine cat_lists I (.inl hp) (.inl hq) (by rw [rs.length, ru.length]; exact hz) fun z hz' => ?_
        exact k _ F _ (Ext.laid inn hz') ⟨z, _, rfl, hz', inn.free hz', upd_same, rs.append ru⟩
      · cases e
    | _ => cases e
  | _ => cases e
theorem op_subD : OpR X (binaryOp .Sub) (rD X.K subD false) := by
  intro pins s σ H x y v u Q I rx ry h
  obtain ⟨F, d1, d2, d, inn, r1, r2, e, k⟩ := h
  cases d1 with
  | int a =>
    cases d2 with
    | int b =>
      cases r1.int_inv; cases r2.int_inv
      cases (Option.some.inj e)
      exact op_sub pins s σ H _ _ v u Q I rx ry ⟨a, b, rfl, rfl, k _ F H (Ext.refl inn) (Rep.int _)⟩
    | _ => cases e
  | _ => cases e
theorem op_modD : OpR X (binaryOp .Mod) (rD X.K modD false) := by
  intro pins s σ H x y v u Q I rx ry h
  obtain ⟨F, d1, d2, d, inn, r1, r2, e, k⟩ := h
  cases d1 with
  | int a =>
    cases d2 with
    | int b =>
      cases r1.int_inv; cases r2.int_inv
      have e : (if 0 < b then some (PyData.int (a % b)) else none) = some d := e
      split at e
      · rename_i hb
        cases (Option.some.inj e)
        exact op_mod pins s σ H _ _ v u Q I rx ry ⟨a, b, rfl, rfl, hb, k _ F H (Ext.refl inn) (Rep.int _)⟩
      · cases e
    | _ => cases e
  | _ => cases e
theorem op_fdivD : OpR X (binaryOp .FloorDiv) (rD X.K fdivD false) := by
  intro pins s σ H x y v u Q I rx ry h
  obtain ⟨F, d1, d2, d, inn, r1, r2, e, k⟩ := h
  cases d1 with
  | int a =>
    cases d2 with
    | int b =>
      cases r1.int_inv; cases r2.int_inv
      have e : (if 0 < b ∧ b < 1073741824 then some (PyData.int (a / b)) else none) = some d := e
      split at e
      · rename_i hb
        cases (Option.some.inj e)
        exact op_fdiv pins s σ H _ _ v u Q I rx ry ⟨a, b, rfl, rfl, hb, k _ F H (Ext.refl inn) (Rep.int _)⟩
      · cases e
    | _ => cases e
  | _ => cases e
theorem op_powD : OpR X (binaryOp .Pow) (rD X.K powD false) := by
  intro pins s σ H x y v u Q I rx ry h
  obtain ⟨F, d1, d2, d, inn, r1, r2, e, k⟩ := h
  cases d1 with
  | int a =>
    cases d2 with
    | int b =>
      cases r1.int_inv; cases r2.int_inv
      have e : (if 0 ≤ b ∧ b ≤ 1000000 ∧ a.natAbs < 2 ^ 64 then some (PyData.int (a ^ b.toNat)) else none) = some d := e
      split at e
      · rename_i hb
        cases (Option.some.inj e)
        exact op_pow pins s σ H _ _ v u Q I rx ry ⟨a, b, rfl, rfl, hb, k _ F H (Ext.refl inn) (Rep.int _)⟩
      · cases e
    | _ => cases e
  | _ => cases e

/-! ### times -/
theorem list_mulW (l : Addr) (items : Array Value) (n : Nat) (dd : Option Addr) (sl : Array (Option Value)) (x : Int) (u : Tok) (hc0 : ¬(!Builtin.List.listFitsIndex x) = true) (hc1 : ¬items.size * x.toNat > (2 ^ 63 - 1) / 8) (hc2 : ¬Builtin.List.listTooLong (items.size * x.toNat) = true) :
    Meets (Builtin.«list.__mul__» ⟨[.ref l, .int x u], []⟩) (fun _ R s => s.heap.get? l = some { cls := .type "list", dict := dd, data := .seq items n, slots := sl } ∧ R (.ok (.ret (Value.ref s.heap.objs.size))) { s with heap := s.heap.push { cls := Value.type "list", data := Data.seq (List.foldl (fun x1 x2 => x1 ++ x2) #[] (List.replicate (if items.isEmpty = true then 0 else x.toNat) items)) }, toks := s.toks }) :=
  .of_wp fun prog w A R s h => by
    obtain ⟨hp, g, d, tk, os⟩ := s; obtain ⟨hl, h⟩ := h
    have hsz := AutoListH.joined_fits hc2
    wp_walk using wpAny_loadPart' hl; refine wpAny_ite_false (decide_eq_false (Nat.not_lt.mpr hsz)) ?_; wp_walk using wpAny_loadPart' hl; exact ⟨_, rfl, h⟩
theorem int_rmul_listW (a : Int) (t : Tok) (l : Addr) (items : Array Value) (n : Nat) (dd : Option Addr) (sl : Array (Option Value)) :
    Meets (Builtin.«int.__rmul__» ⟨[.int a t, .ref l], []⟩) (fun _ R s => s.heap.get? l = some { cls := .type "list", dict := dd, data := .seq items n, slots := sl } ∧ R (.ok (.ret Value.notImplemented)) s) :=
  .of_wp fun prog w A R s h => by obtain ⟨hp, g, d, tk, os⟩ := s; obtain ⟨hl, h⟩ := h; wp_walk using wpAny_loadPart' hl; exact ⟨_, rfl, h⟩
theorem rep_lists {pins : List (Addr × Obj)} {s : Shared} {σ : St} {H : Hp} {a : Addr} {xs : List V} {k : Int} {t : Tok} {Q : VK} (I : Inv X pins σ H s) (ha : SqL X.K H a xs) (h0 : 0 ≤ k) (h1 : k ≤ 1000) (hz : xs.length ≤ 1000)
    (q : ∀ p, H p = none → Q (.ref p) (upd H p (.lst (List.replicate k.toNat xs).flatten))) : wpAny (model X.prog X.w) X.A (binaryOp .Mult (.ref a) (.int k t)) (EP X pins σ Q) X.xe s := by
  obtain ⟨its, r, ⟨⟨cls, dd, data, sl⟩, n, e, hc, hdn, hd⟩, _⟩ := I.list ha
  simp only at hc hd hdn
  subst hc hd
  have hl := r.length
  have hm : xs.length * k.toNat ≤ 1000 * 1000 := Nat.mul_le_mul hz (by omega)
  have hs : sizeLine = 16777216 := sizeLine_eq
  have hlen : its.toArray.size * k.toNat ≤ sizeLine := by rw [List.size_toArray, ← hl]; omega
  have hcap : ¬ its.toArray.size * k.toNat > (2 ^ 63 - 1) / 8 := by
    have : (sizeLine : Nat) ≤ (2 ^ 63 - 1) / 8 := by decide
    omega
  have hfit : ¬ (!Builtin.List.listFitsIndex k) = true := by
    rw [fitsIndex_both (by omega) (by omega)]
    exact Bool.false_ne_true
  have hlong : ¬ Builtin.List.listTooLong (its.toArray.size * k.toNat) = true := by
    rw [notLongL hlen]
    exact Bool.false_ne_true
  have hnew : List.foldl (fun x1 x2 => x1 ++ x2) #[] (List.replicate (if its.toArray.isEmpty = true then 0 else k.toNat) its.toArray) = (List.replicate k.toNat its).flatten.toArray := by
    rw [size_rep]
    cases its with
    | nil => simp
    | cons a r' => rw [if_neg (by simp)]
  refine wpAny_binaryOp_repeat_ref (T := "list") (U := "int") (by decide) ⟨_, e, rfl⟩ (fun s' => typeIs_int s' k t) noFill_list_mul F.fills_int_mul F.slot_int_rmul repeat_list F.slot_int_index.lookup
    (call_meets F.slot_int_rmul (typeIs_int s k t) F.entry_int_rmul (F.args_int_rmul_2 _ _) (int_rmul_listW k t a its.toArray n dd sl)
      ⟨e, rfl, ⟨_, e, rfl⟩, call_meets F.slot_list_mul ⟨_, e, rfl⟩ F.entry_list_mul (F.args_list_mul_2 _ _) (list_mulW a its.toArray n dd sl k t hfit hcap hlong) ⟨e, ?_⟩⟩)
  rw [hnew]
  exact ⟨.ref _, _, I.lnew (t' := s.toks) (r.rep k.toNat) (by rw [PyProof.Rows.lm_len_rep_flat, Nat.mul_comm]; omega), rfl, q _ I.fresh⟩
/-- a tuple times nought, times one -/
theorem tuple_mul0 (l : Addr) (items : Array Value) (n : Nat) (dd : Option Addr) (sl : Array (Option Value)) (u : Tok) (c1 : (items.isEmpty || (0 : Int) == 1) = false) :
    Meets (Builtin.«tuple.__mul__» ⟨[.ref l, .int 0 u], []⟩) (fun _ R s => s.heap.get? l = some { cls := .type "tuple", dict := dd, data := .seq items n, slots := sl } ∧
      R (.ok (.ret (Value.ref s.heap.objs.size))) { s with heap := s.heap.push { cls := Value.type "tuple", data := Data.seq #[] }, toks := s.toks }) :=
  .of_wp fun prog w A R s h => by
    obtain ⟨hp, g, d, tk, os⟩ := s
    obtain ⟨hl, h⟩ := h
    have f1 := AutoSeq1.idx_int
    wp_walk using wpAny_loadPart' hl
    repeat (first
      | (refine wpAny_ite_false (decide_eq_false (by rw [c1]; exact Bool.false_ne_true)) ?_; wp_walk using wpAny_loadPart' hl))
    exact ⟨_, rfl, h⟩
theorem tuple_mul1 (l : Addr) (items : Array Value) (n : Nat) (dd : Option Addr) (sl : Array (Option Value)) (u : Tok) (c1 : (items.isEmpty || (1 : Int) == 1) = true) :
    Meets (Builtin.«tuple.__mul__» ⟨[.ref l, .int 1 u], []⟩) (fun _ R s => s.heap.get? l = some { cls := .type "tuple", dict := dd, data := .seq items n, slots := sl } ∧
      R (.ok (.ret (Value.ref l))) s) :=
  .of_wp fun prog w A R s h => by
    obtain ⟨hp, g, d, tk, os⟩ := s
    obtain ⟨hl, h⟩ := h
    have f1 := AutoSeq1.idx_int
    wp_walk using wpAny_loadPart' hl
    repeat (first
      | (refine wpAny_ite_true (decide_eq_true c1) ?_; wp_walk using wpAny_loadPart' hl))
    exact ⟨_, rfl, h⟩
end
end G7

namespace G7
open L2 PyProof.Rows PySem.Spec PySem
section
variable {X : Cx}
/-! ### times, by data -/
theorem rep_tuple0 {pins : List (Addr × Obj)} {s : Shared} {σ : St} {H : Hp} {a : Addr} {xs : List V} {t : Tok} {Q : VK} (I : Inv X pins σ H s) (ha : SqT X.K H a xs) (hz : xs.length = 1)
    (q : ∀ p o, o.dict = none → H p = none → Q (.ref p) (upd H p (TupO o []))) : wpAny (model X.prog X.w) X.A (binaryOp .Mult (.ref a) (.int 0 t)) (EP X pins σ Q) X.xe s := by
  obtain ⟨its, r, ⟨⟨cls, dd, data, sl⟩, ho, hc, n, hd⟩, hs⟩ := I.tuple ha
  simp only at hc hd
  subst hc hd
  have hi : its.toArray.isEmpty = false := by
    have := r.length
    cases its with
    | nil => rw [hz] at this; cases this
    | cons a b => rfl
  refine wpAny_binaryOp_repeat_ref (T := "tuple") (U := "int") (by decide) ⟨_, ho, rfl⟩ (fun s' => typeIs_int s' 0 t) noFill_tuple_mul F.fills_int_mul F.slot_int_rmul repeat_tuple F.slot_int_index.lookup
    (call_meets F.slot_int_rmul (typeIs_int s 0 t) F.entry_int_rmul (F.args_int_rmul_2 _ _) (int_rmul_tuple 0 t a its.toArray n dd sl)
      ⟨ho, rfl, ⟨_, ho, rfl⟩, call_meets F.slot_tuple_mul ⟨_, ho, rfl⟩ F.entry_tuple_mul (F.args_tuple_mul_2 _ _) (tuple_mul0 a its.toArray n dd sl t (by rw [hi]; rfl)) ⟨ho, ?_⟩⟩)
  exact laidT (t := s.toks) I (Nat.zero_le _) .nil q
theorem rep_tuple1 {pins : List (Addr × Obj)} {s : Shared} {σ : St} {H : Hp} {a : Addr} {xs : List V} {t : Tok} {Q : VK} (I : Inv X pins σ H s) (ha : SqT X.K H a xs)
    (q : Q (.ref a) H) : wpAny (model X.prog X.w) X.A (binaryOp .Mult (.ref a) (.int 1 t)) (EP X pins σ Q) X.xe s := by
  obtain ⟨its, r, ⟨⟨cls, dd, data, sl⟩, ho, hc, n, hd⟩, hs⟩ := I.tuple ha
  simp only at hc hd
  subst hc hd
  refine wpAny_binaryOp_repeat_ref (T := "tuple") (U := "int") (by decide) ⟨_, ho, rfl⟩ (fun s' => typeIs_int s' 1 t) noFill_tuple_mul F.fills_int_mul F.slot_int_rmul repeat_tuple F.slot_int_index.lookup
    (call_meets F.slot_int_rmul (typeIs_int s 1 t) F.entry_int_rmul (F.args_int_rmul_2 _ _) (int_rmul_tuple 1 t a its.toArray n dd sl)
      ⟨ho, rfl, ⟨_, ho, rfl⟩, call_meets F.slot_tuple_mul ⟨_, ho, rfl⟩ F.entry_tuple_mul (F.args_tuple_mul_2 _ _) (tuple_mul1 a its.toArray n dd sl t (by simp)) ⟨ho, ?_⟩⟩)
  exact ⟨.ref a, H, I, rfl, q⟩
theorem foldl_cps (c : Array Nat) : ∀ (n : Nat) (acc : Array Nat), (List.replicate n c).foldl (· ++ ·) acc = acc ++ (List.replicate n c.toList).flatten.toArray
  | 0, acc => by simp
  | n + 1, acc => by
    rw [List.replicate_succ, List.foldl_cons, foldl_cps c n, List.replicate_succ, List.flatten_cons, Array.append_assoc]
    congr 1
    apply Array.toList_inj.mp
    simp
theorem repS_eq (x : Str) (k : Nat) : (⟨(List.replicate k x.cps).foldl (· ++ ·) #[]⟩ : Str) = repS x k := by
  unfold repS
  rw [foldl_cps]
  simp
theorem repS_len (x : Str) (k : Nat) : (repS x k).length = k * x.length := by
  show (List.replicate k x.cps.toList).flatten.toArray.size = _
  rw [List.size_toArray, List.length_flatten, List.map_replicate, List.sum_replicate_nat]
  rfl
theorem SOk.rep {x : Str} (h : SOk x) (k : Nat) (hk : k * x.length ≤ sizeLine) : SOk (repS x k) :=
  h.of_sub (by have := repS_len x k; show (List.replicate k x.cps.toList).flatten.length ≤ _; rw [List.length_flatten, List.map_replicate, List.sum_replicate_nat]; exact hk) fun c hc => by
    obtain ⟨l, hl, hc⟩ := List.mem_flatten.mp hc
    rw [(List.mem_replicate.mp hl).2] at hc
    exact hc
theorem rep_str {pins : List (Addr × Obj)} {s : Shared} {σ : St} {H : Hp} {x : Str} {k : Int} {t u : Tok} {Q : VK} (I : Inv X pins σ H s) (hx : x.length = 1) (h0 : 0 ≤ k) (h1 : k ≤ 1000)
    (q : Q (.str (repS x k.toNat)) H) : wpAny (model X.prog X.w) X.A (binaryOp .Mult (.str x t) (.int k u)) (EP X pins σ Q) X.xe s := by
  have hs : sizeLine = 16777216 := sizeLine_eq
  refine PySem.P.mul_str (by rw [decide_eq_false (by omega), decide_eq_false (by omega)]; rfl) (fun h2 _ => ?_) (fun h2 _ => ?_) ?_
  · rw [hx]
    have : (1 : Int) ≤ (2 ^ 63 - 1) / k := by
      rw [Int.le_ediv_iff_mul_le (by omega)]
      omega
    simp only [Int.natCast_one] at *
    omega
  · rw [hx, Nat.one_mul]
    unfold Builtin.Str.tooLong
    first | exact decide_eq_false (by omega) | (simp; omega)
  · split
    · rename_i hk
      have e : k = 0 := by omega
      subst e
      refine ⟨by decide, .str Str.empty, H, I.tok _, ⟨_, rfl⟩, ?_⟩
      exact q
    · split
      · rename_i hk hk1
        have e : k = 1 := by
          rw [hx] at hk1
          simpa using hk1
        subst e
        refine ⟨.str x, H, I, ⟨_, rfl⟩, ?_⟩
        have e2 : repS x (1 : Int).toNat = x := by
          unfold repS
          simp
        rw [e2] at q
        exact q
      · rw [repS_eq]
        exact ⟨by rw [repS_len, hx]; omega, .str _, H, I.tok _, ⟨_, rfl⟩, q⟩
theorem op_mulD : OpR X (binaryOp .Mult) (rD X.K mulD true) := by
  intro pins s σ H x y v u Q I rx ry h
  obtain ⟨F, d1, d2, d, inn, r1, r2, e, k⟩ := h
  have hs : sizeLine = 16777216 := sizeLine_eq
  cases d1 with
  | int a =>
    cases d2 with
    | int b =>
      cases r1.int_inv; cases r2.int_inv
      have e : (if (small64 a || small64 b) = true then some (PyData.int (a * b)) else none) = some d := e
      split at e
      · rename_i hb
        cases (Option.some.inj e)
        refine op_mul pins s σ H _ _ v u Q I rx ry ⟨a, b, rfl, rfl, ?_, k _ F H (Ext.refl inn) (Rep.int _)⟩
        unfold small64 at hb
        simp only [Bool.or_eq_true, Bool.and_eq_true, decide_eq_true_eq] at hb
        exact hb
      · cases e
    | _ => cases e
  | str a =>
    cases d2 with
    | int b =>
      obtain ⟨rfl, ha⟩ := r1.str_inv
      cases r2.int_inv
      have e : (if a.length = 1 ∧ 0 ≤ b ∧ b ≤ 1000 then some (PyData.str (repS a b.toNat)) else none) = some d := e
      split at e
      · rename_i hz
        cases (Option.some.inj e)
        obtain ⟨t, rfl⟩ := rx
        obtain ⟨t', rfl⟩ := ry
        exact rep_str I hz.1 hz.2.1 hz.2.2 (k _ F H (Ext.refl inn) (Rep.str (ha.rep _ (by rw [hz.1]; omega))))
      · cases e
    | _ => cases e
  | tuple a =>
    cases d2 with
    | int b =>
      obtain ⟨p, vs, rfl, hp, rs⟩ := r1.tup_inv
      cases r2.int_inv
      have e : (if a.length = 1 ∧ 0 ≤ b ∧ b ≤ 1000 then some (PyData.tuple (List.replicate b.toNat a).flatten) else none) = some d := e
      split at e
      · rename_i hz
        cases (Option.some.inj e)
        have hl := rs.length
        have new : ∀ z o, o.dict = none → H z = none → Q (.ref z) (upd H z (TupO o (List.replicate b.toNat vs).flatten)) := fun z o ho hz' =>
          k _ (upd F z (TupO o (List.replicate b.toNat vs).flatten)) _ (Ext.laidF inn hz' rfl) (Rep.tup (TupP.new ho) ((rs.rep b.toNat).mono (sub_upd (inn.free hz'))))
        cases rx
        obtain ⟨t', rfl⟩ := ry
        by_cases b2 : 2 ≤ b
        · exact rep_tupleN I (inn.sub.sqT hp.sqT) (by omega) b2 hz.2.2 new
        · by_cases b0 : b = 0
          · subst b0
            exact rep_tuple0 I (inn.sub.sqT hp.sqT) (by omega) fun z o ho hz' => by simpa using new z o ho hz'
          · have e1 : b = 1 := by omega
            subst e1
            have e2 : (List.replicate (1 : Int).toNat a).flatten = a := by simp
            rw [e2] at k
            exact rep_tuple1 I (inn.sub.sqT hp.sqT) (k _ F H (Ext.refl inn) (Rep.tup hp rs))
      · cases e
    | _ => cases e
  | list a =>
    cases d2 with
    | int b =>
      obtain ⟨p, vs, rfl, hp, rs⟩ := r1
      cases r2.int_inv
      have e : (if a.length ≤ 1000 ∧ 0 ≤ b ∧ b ≤ 1000 then some (PyData.list (List.replicate b.toNat a).flatten) else none) = some d := e
      split at e
      · rename_i hz
        cases (Option.some.inj e)
        cases rx
        obtain ⟨t', rfl⟩ := ry
        refine rep_lists I (.inl hp) hz.2.1 hz.2.2 (by rw [rs.length]; exact hz.1) fun z hz' => ?_
        exact k _ F _ (Ext.laid inn hz') ⟨z, _, rfl, hz', inn.free hz', upd_same, rs.rep _⟩
      · cases e
    | _ => cases e
  | _ => cases e
def opOf : Op2 → Operator
  | .add => .Add
  | .sub => .Sub
  | .mul => .Mult
  | .mod => .Mod
  | .fdiv => .FloorDiv
  | .pow => .Pow
def frOp : Op2 → Bool
  | .add => true
  | .mul => true
  | _ => false
theorem op_2D (o : Op2) : OpR X (binaryOp (opOf o)) (rD X.K (op2 o) (frOp o)) := by
  cases o with
  | add => exact op_addD
  | sub => exact op_subD
  | mul => exact op_mulD
  | mod => exact op_modD
  | fdiv => exact op_fdivD
  | pow => exact op_powD

/-! ### comparisons -/
mutual
theorem Rep.dp {K : PySem.W.Frag} {F : Hp} {v : V} {d : D} : Rep K F v d → d.canLay0 = true → Dp K F v d
  | .non, _ => .non
  | .bl b, _ => .bl b
  | .int i, _ => .int i
  | .str h, _ => .str _
  | .tup h r, c => .tup h.sqT (Reps.dp r (by simpa [PyData.canLay0] using c))
  | .lst h r, c => .lst (.inl h) (Reps.dp r (by simpa [PyData.canLay0] using c))
  | .dct _ _, c => by simp [PyData.canLay0] at c
theorem Reps.dp {K : PySem.W.Frag} {F : Hp} {v : List V} {d : List D} : Reps K F v d → PyData.canLayAll0 d = true → DpAll K F v d
  | .nil, _ => .nil
  | .cons h r, c => by
    simp only [PyData.canLayAll0, Bool.and_eq_true] at c
    exact .cons (Rep.dp h c.1) (Reps.dp r c.2)
end
mutual
theorem dp_sub {K : PySem.W.Frag} {F H : Hp} (s : Sub F H) {v : V} {d : D} : Dp K F v d → Dp K H v d
  | .non => .non
  | .bl b => .bl b
  | .int i => .int i
  | .str x => .str x
  | .lst h r => .lst (s.sqL h) (dps_sub s r)
  | .tup h r => .tup (s.sqT h) (dps_sub s r)
theorem dps_sub {K : PySem.W.Frag} {F H : Hp} (s : Sub F H) {v : List V} {d : List D} : DpAll K F v d → DpAll K H v d
  | .nil => .nil
  | .cons h r => .cons (dp_sub s h) (dps_sub s r)
end
theorem RepB.dp {K : PySem.W.Frag} {F H : Hp} (s : Sub F H) {v : V} {d : D} (r : RepB K F H v d) (c : d.canLay0 = true) : Dp K H v d := by
  cases d with
  | list ds =>
    obtain ⟨p, vs, rfl, h, r⟩ := r
    exact .lst (.inl h) (dps_sub s (r.dp (by simpa [PyData.canLay0] using c)))
  | dict ds => simp [PyData.canLay0] at c
  | none => exact dp_sub s (Rep.dp r c)
  | bool b => exact dp_sub s (Rep.dp r c)
  | int i => exact dp_sub s (Rep.dp r c)
  | str x => exact dp_sub s (Rep.dp r c)
  | tuple ds => exact dp_sub s (Rep.dp r c)
mutual
theorem Rep.lay {K : PySem.W.Frag} {F : Hp} {v : V} {d : D} : Rep K F v d → noD d = true → d.canLay0 = true
  | .non, _ => rfl
  | .bl b, _ => rfl
  | .int i, _ => rfl
  | .str h, _ => by simp only [PyData.canLay0]; exact h.2
  | .tup h r, c => by simp only [PyData.canLay0]; exact Reps.lay r (by unfold noD at c; exact c)
  | .lst h r, c => by simp only [PyData.canLay0]; exact Reps.lay r (by unfold noD at c; exact c)
  | .dct _ _, c => by unfold noD at c; cases c
theorem Reps.lay {K : PySem.W.Frag} {F : Hp} {v : List V} {d : List D} : Reps K F v d → noDs d = true → PyData.canLayAll0 d = true
  | .nil, _ => rfl
  | .cons h r, c => by
    unfold noDs at c
    simp only [Bool.and_eq_true] at c
    simp only [PyData.canLayAll0, Bool.and_eq_true]
    exact ⟨Rep.lay h c.1, Reps.lay r c.2⟩
end
theorem RepB.lay {K : PySem.W.Frag} {F H : Hp} {v : V} {d : D} (r : RepB K F H v d) (c : noD d = true) : d.canLay0 = true := by
  cases d with
  | list ds =>
    obtain ⟨p, vs, rfl, h, r⟩ := r
    simp only [PyData.canLay0]
    exact r.lay (by unfold noD at c; exact c)
  | dict ds => unfold noD at c; cases c
  | none => rfl
  | bool b => rfl
  | int i => rfl
  | str x => exact Rep.lay r c
  | tuple ds => exact Rep.lay r c
/-- a comparison by data -/
def rB (K : PySem.W.Frag) (f : D → D → Option Bool) : R2 := fun x y H Q => ∃ F d1 d2 b, Inn F H ∧ RepB K F H x d1 ∧ RepB K F H y d2 ∧ f d1 d2 = some b ∧ Q (.bl b) H
theorem op_eqD' (hu : X.A.units + 65 < cLine) : OpR X (compareOp .Eq) (rB X.K eqD) := by
  intro pins s σ H x y v u Q I rx ry h
  obtain ⟨F, d1, d2, b, inn, r1, r2, e, k⟩ := h
  unfold eqD at e
  split at e
  · rename_i hc0
    have hc : d1.canLay0 = true ∧ d2.canLay0 = true ∧ min d1.depth d2.depth ≤ 64 := ⟨r1.lay hc0.1, r2.lay hc0.2.1, hc0.2.2⟩
    cases (Option.some.inj e)
    obtain ⟨as, q1⟩ := Dp.reads I d1 x v (r1.dp inn.sub hc.1) rx
    obtain ⟨bs, q2⟩ := Dp.reads I d2 y u (r2.dp inn.sub hc.2.1) ry
    exact SeqAt.compareEq_reads q1 q2 hc.1 hc.2.1 (by have := hc.2.2; omega) ⟨.bl _, H, I, rfl, k⟩
  · cases e
theorem op_neD' (hu : X.A.units + 65 < cLine) : OpR X (compareOp .NotEq) (rB X.K fun a b => (eqD a b).map (!·)) := by
  intro pins s σ H x y v u Q I rx ry h
  obtain ⟨F, d1, d2, b, inn, r1, r2, e, k⟩ := h
  unfold eqD at e
  dsimp only at e
  split at e
  · rename_i hc0
    have hc : d1.canLay0 = true ∧ d2.canLay0 = true ∧ min d1.depth d2.depth ≤ 64 := ⟨r1.lay hc0.1, r2.lay hc0.2.1, hc0.2.2⟩
    cases (Option.some.inj e)
    obtain ⟨as, q1⟩ := Dp.reads I d1 x v (r1.dp inn.sub hc.1) rx
    obtain ⟨bs, q2⟩ := Dp.reads I d2 y u (r2.dp inn.sub hc.2.1) ry
    exact SeqAt.compareNe_reads q1 q2 hc.1 hc.2.1 (by have := hc.2.2; omega) ⟨.bl _, H, I, rfl, k⟩
  · cases e
theorem op_isD : OpR X (compareOp .Is) (rB X.K isD) := by
  intro pins s σ H x y v u Q I rx ry h
  obtain ⟨F, d1, d2, b, inn, r1, r2, e, k⟩ := h
  cases d2 with
  | none =>
    cases r2.non_inv
    cases (show u = Value.none from ry)
    refine is_none_gen ⟨.bl _, H, I, rfl, ?_⟩
    rw [rx.none_iff]
    have : b = decide (x = .non) := by
      cases d1 with
      | none => cases r1.non_inv; exact (Option.some.inj e).symm
      | bool c => cases r1.bool_inv; exact (Option.some.inj e).symm
      | int c => cases r1.int_inv; exact (Option.some.inj e).symm
      | str c => obtain ⟨rfl, _⟩ := r1.str_inv; exact (Option.some.inj e).symm
      | tuple c => obtain ⟨_, _, rfl, _⟩ := r1.tup_inv; exact (Option.some.inj e).symm
      | list c => obtain ⟨_, _, rfl, _⟩ := r1; exact (Option.some.inj e).symm
      | dict c => obtain ⟨_, _, rfl, _⟩ := r1; exact (Option.some.inj e).symm
    rw [← this]; exact k
  | bool c =>
    cases r2.bool_inv
    cases (show u = Value.bool c from ry)
    have fin : ∀ b' : Bool, b' = b → EP X pins σ Q (.bool b') s := fun b' e' => ⟨.bl b', H, I, rfl, by rw [e']; exact k⟩
    cases d1 with
    | none => cases r1.non_inv; cases (show v = Value.none from rx); cases (Option.some.inj e); exact wpAny_pure (fin _ rfl)
    | bool a =>
      cases r1.bool_inv
      cases (show v = Value.bool a from rx)
      have e : some (a == c) = some b := e
      cases (Option.some.inj e)
      exact wpAny_pure (fin _ (by cases a <;> cases c <;> rfl))
    | int a => cases r1.int_inv; obtain ⟨t, rfl⟩ := rx; cases (Option.some.inj e); exact wpAny_pure (fin _ rfl)
    | str a => obtain ⟨rfl, _⟩ := r1.str_inv; obtain ⟨t, rfl⟩ := rx; cases (Option.some.inj e); exact wpAny_pure (fin _ rfl)
    | tuple a => obtain ⟨p, _, rfl, _⟩ := r1.tup_inv; cases (show v = Value.ref p from rx); cases (Option.some.inj e); exact wpAny_pure (fin _ rfl)
    | list a => obtain ⟨p, _, rfl, _⟩ := r1; cases (show v = Value.ref p from rx); cases (Option.some.inj e); exact wpAny_pure (fin _ rfl)
    | dict a => obtain ⟨p, _, rfl, _⟩ := r1; cases (show v = Value.ref p from rx); cases (Option.some.inj e); exact wpAny_pure (fin _ rfl)
  | _ => cases e
theorem op_isnD : OpR X (compareOp .IsNot) (rB X.K fun a b => (isD a b).map (!·)) := by
  intro pins s σ H x y v u Q I rx ry h
  obtain ⟨F, d1, d2, b, inn, r1, r2, e, k⟩ := h
  cases d2 with
  | none =>
    cases r2.non_inv
    cases (show u = Value.none from ry)
    refine isnot_none_gen ⟨.bl _, H, I, rfl, ?_⟩
    rw [rx.none_iff]
    have : b = !decide (x = .non) := by
      cases d1 with
      | none => cases r1.non_inv; exact (Option.some.inj e).symm
      | bool c => cases r1.bool_inv; exact (Option.some.inj e).symm
      | int c => cases r1.int_inv; exact (Option.some.inj e).symm
      | str c => obtain ⟨rfl, _⟩ := r1.str_inv; exact (Option.some.inj e).symm
      | tuple c => obtain ⟨_, _, rfl, _⟩ := r1.tup_inv; exact (Option.some.inj e).symm
      | list c => obtain ⟨_, _, rfl, _⟩ := r1; exact (Option.some.inj e).symm
      | dict c => obtain ⟨_, _, rfl, _⟩ := r1; exact (Option.some.inj e).symm
    rw [← this]; exact k
  | bool c =>
    cases r2.bool_inv
    cases (show u = Value.bool c from ry)
    have fin : ∀ b' : Bool, b' = b → EP X pins σ Q (.bool b') s := fun b' e' => ⟨.bl b', H, I, rfl, by rw [e']; exact k⟩
    cases d1 with
    | none => cases r1.non_inv; cases (show v = Value.none from rx); cases (Option.some.inj e); exact wpAny_pure (fin _ rfl)
    | bool a =>
      cases r1.bool_inv
      cases (show v = Value.bool a from rx)
      have e : some (!(a == c)) = some b := e
      cases (Option.some.inj e)
      exact wpAny_pure (fin _ (by cases a <;> cases c <;> rfl))
    | int a => cases r1.int_inv; obtain ⟨t, rfl⟩ := rx; cases (Option.some.inj e); exact wpAny_pure (fin _ rfl)
    | str a => obtain ⟨rfl, _⟩ := r1.str_inv; obtain ⟨t, rfl⟩ := rx; cases (Option.some.inj e); exact wpAny_pure (fin _ rfl)
    | tuple a => obtain ⟨p, _, rfl, _⟩ := r1.tup_inv; cases (show v = Value.ref p from rx); cases (Option.some.inj e); exact wpAny_pure (fin _ rfl)
    | list a => obtain ⟨p, _, rfl, _⟩ := r1; cases (show v = Value.ref p from rx); cases (Option.some.inj e); exact wpAny_pure (fin _ rfl)
    | dict a => obtain ⟨p, _, rfl, _⟩ := r1; cases (show v = Value.ref p from rx); cases (Option.some.inj e); exact wpAny_pure (fin _ rfl)
  | _ => cases e
end
end G7

namespace G7
open L2 PyProof.Rows PySem.Spec PySem
section
variable {X : Cx}
/-! ### order -/
def seqB : D → Bool
  | .tuple _ => true
  | .list _ => true
  | _ => false
theorem ltD_cases {a b : D} {c : Bool} (e : ltD a b = some c) : (∃ i j, a = .int i ∧ b = .int j ∧ c = decide (i < j)) ∨ (∃ i j, a = .str i ∧ b = .str j ∧ c = ltS i j) ∨ (a ≠ .none ∧ b ≠ .none ∧ noD a = true ∧ noD b = true ∧ min a.depth b.depth ≤ 64 ∧ PySem.W.alike a b = true ∧ c = PySem.W.dataLt a b) := by
  have sq : ∀ {a b : D}, a ≠ .none → b ≠ .none → seqLt a b = some c → a ≠ .none ∧ b ≠ .none ∧ noD a = true ∧ noD b = true ∧ min a.depth b.depth ≤ 64 ∧ PySem.W.alike a b = true ∧ c = PySem.W.dataLt a b := fun {a b} n1 n2 e => by
    unfold seqLt at e
    split at e
    · rename_i h
      exact ⟨n1, n2, h.1, h.2.1, h.2.2.1, h.2.2.2, (Option.some.inj e).symm⟩
    · cases e
  cases a with
  | int i =>
    cases b with
    | int j => exact .inl ⟨i, j, rfl, rfl, (Option.some.inj e).symm⟩
    | _ => cases e
  | str i =>
    cases b with
    | str j => exact .inr (.inl ⟨i, j, rfl, rfl, (Option.some.inj e).symm⟩)
    | _ => cases e
  | tuple xs =>
    cases b with
    | tuple ys => exact .inr (.inr (sq (fun z => by cases z) (fun z => by cases z) e))
    | _ => cases e
  | list xs =>
    cases b with
    | list ys => exact .inr (.inr (sq (fun z => by cases z) (fun z => by cases z) e))
    | _ => cases e
  | _ => cases b <;> cases e
mutual
theorem alike_symm : ∀ a b : D, PySem.W.alike a b = true → PySem.W.alike b a = true
  | .none, b, h => by cases b <;> first | rfl | (unfold PySem.W.alike at h; cases h)
  | .bool _, b, h => by cases b <;> first | rfl | (unfold PySem.W.alike at h; cases h)
  | .int _, b, h => by cases b <;> first | rfl | (unfold PySem.W.alike at h; cases h)
  | .str _, b, h => by cases b <;> first | rfl | (unfold PySem.W.alike at h; cases h)
  | .dict _, b, h => by cases b <;> (unfold PySem.W.alike at h; cases h)
  | .list xs, b, h => by
    cases b with
    | list ys => unfold PySem.W.alike at h ⊢; exact alike_symms xs ys h
    | _ => unfold PySem.W.alike at h; cases h
  | .tuple xs, b, h => by
    cases b with
    | tuple ys => unfold PySem.W.alike at h ⊢; exact alike_symms xs ys h
    | _ => unfold PySem.W.alike at h; cases h
theorem alike_symms : ∀ xs ys : List D, PySem.W.alikeAll xs ys = true → PySem.W.alikeAll ys xs = true
  | [], [], _ => by unfold PySem.W.alikeAll; rfl
  | [], _ :: _, _ => by unfold PySem.W.alikeAll; rfl
  | _ :: _, [], _ => by unfold PySem.W.alikeAll; rfl
  | x :: xs, y :: ys, h => by
    unfold PySem.W.alikeAll at h ⊢
    rw [Bool.and_eq_true] at h ⊢
    exact ⟨alike_symm x y h.1, alike_symms xs ys h.2⟩
end
theorem not_lt_dec (i j : Int) : (!decide (i < j)) = decide (j ≤ i) := by
  by_cases h : i < j
  · rw [decide_eq_true h, decide_eq_false (by omega)]; rfl
  · rw [decide_eq_false h, decide_eq_true (by omega)]; rfl
theorem op_ltD (hu : X.A.units + 65 < cLine) : OpR X (compareOp .Lt) (rB X.K ltD) := by
  intro pins s σ H x y v u Q I rx ry h
  obtain ⟨F, d1, d2, b, inn, r1, r2, e, k⟩ := h
  rcases ltD_cases e with ⟨i, j, rfl, rfl, rfl⟩ | ⟨i, j, rfl, rfl, rfl⟩ | ⟨n1, n2, c1, c2, c3, c4, rfl⟩
  · cases r1.int_inv; cases r2.int_inv
    exact op_lt pins s σ H _ _ v u Q I rx ry ⟨i, j, rfl, rfl, k⟩
  · obtain ⟨rfl, _⟩ := r1.str_inv
    obtain ⟨rfl, _⟩ := r2.str_inv
    exact op_lt_str pins s σ H _ _ v u Q I rx ry ⟨i, j, rfl, rfl, k⟩
  · obtain ⟨as, q1⟩ := Dp.reads I d1 x v (r1.dp inn.sub (r1.lay c1)) rx
    obtain ⟨bs, q2⟩ := Dp.reads I d2 y u (r2.dp inn.sub (r2.lay c2)) ry
    exact PySem.W.lt_data q1 q2 c4 n1 (by omega) ⟨.bl _, H, I, rfl, k⟩

theorem op_gtD (hu : X.A.units + 65 < cLine) : OpR X (compareOp .Gt) (rB X.K fun a b => ltD b a) := by
  intro pins s σ H x y v u Q I rx ry h
  obtain ⟨F, d1, d2, b, inn, r1, r2, e, k⟩ := h
  rcases ltD_cases e with ⟨i, j, rfl, rfl, rfl⟩ | ⟨i, j, rfl, rfl, rfl⟩ | ⟨n1, n2, c1, c2, c3, c4, rfl⟩
  · cases r1.int_inv; cases r2.int_inv
    exact op_gt pins s σ H _ _ v u Q I rx ry ⟨j, i, rfl, rfl, k⟩
  · obtain ⟨rfl, _⟩ := r1.str_inv
    obtain ⟨rfl, _⟩ := r2.str_inv
    exact op_gt_str pins s σ H _ _ v u Q I rx ry ⟨j, i, rfl, rfl, k⟩
  · obtain ⟨as, q1⟩ := Dp.reads I d1 x v (r1.dp inn.sub (r1.lay c2)) rx
    obtain ⟨bs, q2⟩ := Dp.reads I d2 y u (r2.dp inn.sub (r2.lay c1)) ry
    exact PySem.W.gt_data q1 q2 (alike_symm _ _ c4) n2 (by omega) ⟨.bl _, H, I, rfl, k⟩

theorem op_leD (hu : X.A.units + 65 < cLine) : OpR X (compareOp .LtE) (rB X.K fun a b => (ltD b a).map (!·)) := by
  intro pins s σ H x y v u Q I rx ry h
  obtain ⟨F, d1, d2, b, inn, r1, r2, e, k⟩ := h
  obtain ⟨c, e', rfl⟩ := Option.map_eq_some_iff.mp e
  rcases ltD_cases e' with ⟨i, j, rfl, rfl, rfl⟩ | ⟨i, j, rfl, rfl, rfl⟩ | ⟨n1, n2, c1, c2, c3, c4, rfl⟩
  · cases r1.int_inv; cases r2.int_inv
    rw [not_lt_dec] at k
    exact op_le pins s σ H _ _ v u Q I rx ry ⟨j, i, rfl, rfl, k⟩
  · obtain ⟨rfl, _⟩ := r1.str_inv
    obtain ⟨rfl, _⟩ := r2.str_inv
    exact op_le_str pins s σ H _ _ v u Q I rx ry ⟨j, i, rfl, rfl, k⟩
  · obtain ⟨as, q1⟩ := Dp.reads I d1 x v (r1.dp inn.sub (r1.lay c2)) rx
    obtain ⟨bs, q2⟩ := Dp.reads I d2 y u (r2.dp inn.sub (r2.lay c1)) ry
    exact PySem.W.le_data q1 q2 (alike_symm _ _ c4) n2 (by omega) ⟨.bl _, H, I, rfl, k⟩

theorem op_geD (hu : X.A.units + 65 < cLine) : OpR X (compareOp .GtE) (rB X.K fun a b => (ltD a b).map (!·)) := by
  intro pins s σ H x y v u Q I rx ry h
  obtain ⟨F, d1, d2, b, inn, r1, r2, e, k⟩ := h
  obtain ⟨c, e', rfl⟩ := Option.map_eq_some_iff.mp e
  rcases ltD_cases e' with ⟨i, j, rfl, rfl, rfl⟩ | ⟨i, j, rfl, rfl, rfl⟩ | ⟨n1, n2, c1, c2, c3, c4, rfl⟩
  · cases r1.int_inv; cases r2.int_inv
    rw [not_lt_dec] at k
    exact op_ge pins s σ H _ _ v u Q I rx ry ⟨i, j, rfl, rfl, k⟩
  · obtain ⟨rfl, _⟩ := r1.str_inv
    obtain ⟨rfl, _⟩ := r2.str_inv
    exact op_ge_str pins s σ H _ _ v u Q I rx ry ⟨i, j, rfl, rfl, k⟩
  · obtain ⟨as, q1⟩ := Dp.reads I d1 x v (r1.dp inn.sub (r1.lay c1)) rx
    obtain ⟨bs, q2⟩ := Dp.reads I d2 y u (r2.dp inn.sub (r2.lay c2)) ry
    exact PySem.W.ge_data q1 q2 c4 n1 (by omega) ⟨.bl _, H, I, rfl, k⟩

/-! ### in -/
theorem keyD_inj {a b : Key} (h : keyD a = keyD b) : a = b := by
  cases a <;> cases b <;> cases h <;> rfl
theorem dKey_keyD (k : Key) : dKey (keyD k) = some k := by cases k <;> rfl
theorem dKey_some {d : D} {k : Key} (h : dKey d = some k) : d = keyD k := by
  cases d with
  | int i => cases h; rfl
  | str x => cases h; rfl
  | _ => cases h
theorem RepK.look {K : PySem.W.Frag} {F : Hp} : ∀ {kvs : List (Key × V)} {ds : List (D × D)}, RepK K F kvs ds → ∀ k : Key,
    (∀ d, lookD ds k = some d → ∃ v, valV kvs k = some v ∧ Rep K F v d) ∧ (lookD ds k = none → valV kvs k = none) := by
  intro kvs ds h k
  cases h with
  | nil => exact ⟨fun d e => by simp [lookD] at e, fun _ => rfl⟩
  | @cons k0 v vs d ds' hk hv r =>
    obtain ⟨ih1, ih2⟩ := RepK.look r k
    by_cases e : k0 = k
    · subst e
      have l : lookD ((keyD k0, d) :: ds') k0 = some d := by unfold lookD; rw [List.find?_cons_of_pos (by rw [dKey_keyD]; simp)]; rfl
      have l2 : valV ((k0, v) :: vs) k0 = some v := valV_pos rfl
      exact ⟨fun d' e' => by rw [l] at e'; cases e'; exact ⟨v, l2, hv⟩, fun e' => by rw [l] at e'; cases e'⟩
    · have l : lookD ((keyD k0, d) :: ds') k = lookD ds' k := by
        unfold lookD
        rw [List.find?_cons_of_neg]
        rw [dKey_keyD]; simpa using e
      have l2 : valV ((k0, v) :: vs) k = valV vs k := valV_neg e
      rw [l, l2]
      exact ⟨ih1, ih2⟩
theorem RepK.isSome {K : PySem.W.Frag} {F : Hp} {kvs : List (Key × V)} {ds : List (D × D)} (r : RepK K F kvs ds) (k : Key) : (valV kvs k).isSome = (lookD ds k).isSome := by
  obtain ⟨h1, h2⟩ := r.look k
  cases e : lookD ds k with
  | none => rw [h2 e] <;> rfl
  | some d => obtain ⟨v, e', _⟩ := h1 d e; rw [e']; rfl
theorem RepB.key {K : PySem.W.Frag} {F H : Hp} {x : V} {d : D} {k : Key} (r : RepB K F H x d) (h : dKey d = some k) : x = kV k ∧ KOk k := by
  cases d with
  | int i => cases r.int_inv; cases h; exact ⟨rfl, trivial⟩
  | str z => obtain ⟨rfl, o⟩ := r.str_inv; cases h; exact ⟨rfl, o⟩
  | _ => cases h
theorem in_gen (hu : X.A.units + 65 < cLine) (neg : Bool) : OpR X (compareOp (if neg then .NotIn else .In)) (rB X.K fun a b => (inD a b).map fun c => if neg then !c else c) := by
  intro pins s σ H x y v u Q I rx ry h
  obtain ⟨F, d1, d2, b, inn, r1, r2, e, k⟩ := h
  obtain ⟨c, e', rfl⟩ := Option.map_eq_some_iff.mp e
  clear e
  have e := e'
  cases d2 with
  | list ys =>
    have e : (if noD d1 = true ∧ noDs ys = true ∧ d1.depth ≤ 64 then some (ys.any fun y => PyData.eqv y d1) else none) = some c := e
    split at e
    · rename_i hc0
      have hc : d1.canLay0 = true ∧ (PyData.list ys).canLay0 = true ∧ d1.depth ≤ 64 := ⟨r1.lay hc0.1, r2.lay (by unfold noD; exact hc0.2.1), hc0.2.2⟩
      cases (Option.some.inj e)
      obtain ⟨as, q1⟩ := Dp.reads I d1 x v (r1.dp inn.sub hc.1) rx
      obtain ⟨bs, q2⟩ := Dp.reads I _ y u (r2.dp inn.sub hc.2.1) ry
      have hm : min (PyData.depthAll ys) d1.depth ≤ d1.depth := Nat.min_le_right _ _
      have h3 := hc.2.2
      cases neg with
      | false => exact SeqAt.in_list_reads q2 q1 (by simpa [PyData.canLay0] using hc.2.1) hc.1 (by omega) ⟨.bl _, H, I, rfl, k⟩
      | true => exact SeqAt.notIn_list_reads q2 q1 (by simpa [PyData.canLay0] using hc.2.1) hc.1 (by omega) ⟨.bl _, H, I, rfl, k⟩
    · cases e
  | tuple ys =>
    have e : (if noD d1 = true ∧ noDs ys = true ∧ d1.depth ≤ 64 then some (ys.any fun y => PyData.eqv y d1) else none) = some c := e
    split at e
    · rename_i hc0
      have hc : d1.canLay0 = true ∧ (PyData.tuple ys).canLay0 = true ∧ d1.depth ≤ 64 := ⟨r1.lay hc0.1, r2.lay (by unfold noD; exact hc0.2.1), hc0.2.2⟩
      cases (Option.some.inj e)
      obtain ⟨as, q1⟩ := Dp.reads I d1 x v (r1.dp inn.sub hc.1) rx
      obtain ⟨bs, q2⟩ := Dp.reads I _ y u (r2.dp inn.sub hc.2.1) ry
      have hm : min (PyData.depthAll ys) d1.depth ≤ d1.depth := Nat.min_le_right _ _
      have h3 := hc.2.2
      cases neg with
      | false => exact SeqAt.in_tuple_reads q2 q1 (by simpa [PyData.canLay0] using hc.2.1) hc.1 (by omega) ⟨.bl _, H, I, rfl, k⟩
      | true => exact SeqAt.notIn_tuple_reads q2 q1 (by simpa [PyData.canLay0] using hc.2.1) hc.1 (by omega) ⟨.bl _, H, I, rfl, k⟩
    · cases e
  | str z =>
    cases d1 with
    | str t =>
      obtain ⟨rfl, _⟩ := r1.str_inv
      obtain ⟨rfl, _⟩ := r2.str_inv
      have e : (if t.length = 1 then some (decide (t.cps.getD 0 0 ∈ z.cps.toList)) else none) = some c := e
      split at e
      · rename_i hl
        cases (Option.some.inj e)
        obtain ⟨ch, rfl⟩ : ∃ ch, t = ⟨#[ch]⟩ := by
          obtain ⟨cps⟩ := t
          have hl : cps.size = 1 := hl
          refine ⟨cps[0], ?_⟩
          congr 1
          apply Array.ext
          · simpa using hl
          · intro i h1 h2
            have : i = 0 := by omega
            subst this; rfl
        cases neg with
        | false => exact op_in_sign pins s σ H _ _ v u Q I rx ry ⟨ch, z, rfl, rfl, k⟩
        | true => exact op_notIn_sign pins s σ H _ _ v u Q I rx ry ⟨ch, z, rfl, rfl, k⟩
      · cases e
    | _ => cases e
  | dict ds =>
    obtain ⟨p, kvs, rfl, hr, rk⟩ := r2
    obtain ⟨key, hk, rfl⟩ := Option.map_eq_some_iff.mp (show (dKey d1).map (fun k => (lookD ds k).isSome) = some c from e)
    obtain ⟨rfl, _⟩ := r1.key hk
    cases (show u = Value.ref p from ry)
    have g : DGet H p (kV key) (valV kvs key) := .inl ⟨kvs, key, hr, rfl, rfl⟩
    rw [← rk.isSome key] at k
    cases neg with
    | false => exact d_in (by omega) I g rx fun s' I' => ⟨.bl _, H, I', rfl, k⟩
    | true => exact d_notIn (by omega) I g rx fun s' I' => ⟨.bl _, H, I', rfl, k⟩
  | _ => cases e
theorem op_inD' (hu : X.A.units + 65 < cLine) : OpR X (compareOp .In) (rB X.K inD) := by
  have h := in_gen (X := X) hu false
  intro pins s σ H x y v u Q I rx ry ⟨F, d1, d2, b, inn, r1, r2, e, k⟩
  exact h pins s σ H x y v u Q I rx ry ⟨F, d1, d2, b, inn, r1, r2, by show (inD d1 d2).map _ = _; rw [e]; rfl, k⟩
theorem op_ninD (hu : X.A.units + 65 < cLine) : OpR X (compareOp .NotIn) (rB X.K fun a b => (inD a b).map (!·)) := in_gen (X := X) hu true
def cmOp : Cm → CmpOp
  | .eq => .Eq
  | .ne => .NotEq
  | .lt => .Lt
  | .le => .LtE
  | .gt => .Gt
  | .ge => .GtE
  | .inn => .In
  | .nin => .NotIn
  | .is => .Is
  | .isn => .IsNot
theorem op_cmpD (hu : X.A.units + 65 < cLine) (o : Cm) : OpR X (compareOp (cmOp o)) (rB X.K (cmpD o)) := by
  cases o with
  | eq => exact op_eqD' hu
  | ne => exact op_neD' hu
  | lt => exact op_ltD hu
  | le => exact op_leD hu
  | gt => exact op_gtD hu
  | ge => exact op_geD hu
  | inn => exact op_inD' hu
  | nin => exact op_ninD hu
  | is => exact op_isD
  | isn => exact op_isnD

/-! ### a[i], a[lo:hi] -/
theorem ixN_lt {n : Nat} {i : Int} {j : Nat} (h : ixN n i = some j) : j < n := (ixN_seq h).2.1
theorem Reps.atI {K : PySem.W.Frag} {F : Hp} {vs : List V} {ds : List D} {i : Int} {d : D} (r : Reps K F vs ds) (h : L2.atI ds i = some d) : ∃ v, L2.atI vs i = some v ∧ Rep K F v d := by
  unfold L2.atI at h ⊢
  rw [r.length]
  cases e : ixN ds.length i with
  | none => rw [e] at h; cases h
  | some j =>
    rw [e] at h
    obtain ⟨v, h1, h2⟩ := r.get (show ds[j]? = some d from h)
    exact ⟨v, h1, h2⟩
def rIx (K : PySem.W.Frag) : R2 := fun x y H Q => ∃ F d1 d2 d, Inn F H ∧ RepB K F H x d1 ∧ RepB K F H y d2 ∧ idxD d1 d2 = some d ∧ ∀ v, Rep K F v d → Q v H
theorem ix_all (hu : X.A.units + 65 < cLine) : IxR X (rIx X.K) := by
  intro value slice pins s σ H x y v u Q I rx ry h hs
  obtain ⟨F, d1, d2, d, inn, r1, r2, e, k⟩ := h
  cases d1 with
  | tuple xs =>
    obtain ⟨p, vs, rfl, hp, rs⟩ := r1.tup_inv
    cases d2 with
    | int i =>
      cases r2.int_inv
      obtain ⟨w, h1, h2⟩ := rs.atI (show L2.atI xs i = some d from e)
      exact ix_tup value slice pins s σ H _ _ v u Q I rx ry ⟨p, vs, i, w, rfl, rfl, inn.sub.sqT hp.sqT, h1, k w h2⟩ hs
    | _ => cases e
  | list xs =>
    obtain ⟨p, vs, rfl, hp, rs⟩ := r1
    cases d2 with
    | int i =>
      cases r2.int_inv
      obtain ⟨w, h1, h2⟩ := rs.atI (show L2.atI xs i = some d from e)
      exact ix_list value slice pins s σ H _ _ v u Q I rx ry ⟨p, vs, i, w, rfl, rfl, .inl hp, h1, k w h2⟩ hs
    | _ => cases e
  | str z =>
    obtain ⟨rfl, ho⟩ := r1.str_inv
    cases d2 with
    | int i =>
      cases r2.int_inv
      obtain ⟨c, h1, rfl⟩ := Option.map_eq_some_iff.mp (show (L2.atI z.cps.toList i).map (fun c => (PyData.str ⟨#[c]⟩ : D)) = some d from e)
      have hm : c ∈ z.cps.toList := by
        unfold L2.atI at h1
        cases q : ixN z.cps.toList.length i with
        | none => rw [q] at h1; cases h1
        | some j => rw [q] at h1; exact List.mem_of_getElem? h1
      exact ix_str value slice pins s σ H _ _ v u Q I rx ry ⟨z, i, c, rfl, rfl, ho.1, h1, k _ (.str (ho.of_sub (l := [c]) (by show 1 ≤ sizeLine; decide) fun c' hc' => by simp at hc'; subst hc'; exact hm))⟩ hs
    | _ => cases e
  | dict ds =>
    obtain ⟨p, kvs, rfl, hr, rk⟩ := r1
    have e : (dKey d2).bind (lookD ds) = some d := e
    cases hk : dKey d2 with
    | none => rw [hk] at e; cases e
    | some key =>
      rw [hk] at e
      obtain ⟨rfl, _⟩ := r2.key hk
      obtain ⟨w, h1, h2⟩ := (rk.look key).1 d e
      cases (show v = Value.ref p from rx)
      have g : DGet H p (kV key) (some w) := .inl ⟨kvs, key, hr, rfl, h1.symm⟩
      have hT := dict_typeIs I g
      have h₂ : wpAny (model X.prog X.w) X.A (getItem (.ref p) u) (EP X pins σ Q) X.xe s := d_getItem (by omega) I g ry fun w' s3 I3 rw' => ⟨w, H, I3, rw', k w h2⟩
      unfold subscriptTail
      refine wpAny_bind ?_
      rw [getitemInPython_of_ne hT.not_modules]
      refine wpAny_bind (wpAny_specialOf hT PySem.F.slot_dict_getitem.lookup ?_)
      have fin : wpAny (model X.prog X.w) X.A (subscripted slice false (.ref p) u) (fun r s₃ => wpAny (model X.prog X.w) X.A (letTemporaryGo value (.ref p) r >>= fun _ => pure r) (EP X pins σ Q) X.xe s₃) X.xe s := by
        rw [hs]
        exact wpAny_operating (wpAny_mono h₂ (fun r s₃ h₃ => wpAny_bind (wpAny_letTemporaryGo (wpAny_pure h₃))) fun _ _ x => x)
      first
        | exact wpAny_pure (wpAny_bind fin)
        | exact wpAny_bind (wpAny_pure (wpAny_bind fin))
        | exact wpAny_bind fin
  | _ => cases d2 <;> cases e
end
end G7

namespace G7
open L2 PyProof.Rows PySem.Spec PySem
section
variable {X : Cx}
/-! ### a[lo:hi] -/
theorem cutV_eq (xs : List V) (lo hi : Option Int) : cutV xs lo hi = cutD xs lo hi := rfl
theorem Reps.cut {K : PySem.W.Frag} {F : Hp} {vs : List V} {ds : List D} (r : Reps K F vs ds) (lo hi : Option Int) : Reps K F (cutV vs lo hi) (cutD ds lo hi) := by
  unfold cutV cutD
  rw [r.length]
  exact (r.drop _).take _
def rSlD (K : PySem.W.Frag) : V → Option Int → Option Int → Hp → VK → Prop := fun x lo hi H Q => ∃ F d1 d, Inn F H ∧ RepB K F H x d1 ∧ slcD d1 lo hi = some d ∧
  ∀ v F' H', Ext Nil F H F' H' → Rep K F' v d → Q v H'
theorem sl_all : SlR X (rSlD X.K) := by
  intro pins s σ H x v vl vu lo hi sl Q I rx hs pl pu h
  obtain ⟨F, d1, d, inn, r1, e, k⟩ := h
  cases d1 with
  | tuple ds =>
    obtain ⟨p, vs, rfl, hp, rs⟩ := r1.tup_inv
    cases (Option.some.inj e)
    refine sl_tupP pins s σ H _ v vl vu lo hi sl Q I rx hs pl pu ⟨p, vs, rfl, inn.sub.sqT hp.sqT, fun hw => ?_, fun _ z o ho hz => ?_⟩
    · refine k _ F H (Ext.refl inn) (.tup hp ?_)
      have e : cutV vs lo hi = vs := by
        unfold cutV
        rw [hw.1, hw.2]
        simp
      have r := rs.cut lo hi
      rw [e] at r
      exact r
    · exact k _ _ _ (Ext.laidF inn hz rfl) (.tup (TupP.new ho) ((rs.cut lo hi).mono (sub_upd (inn.free hz))))
  | list ds =>
    obtain ⟨p, vs, rfl, hp, rs⟩ := r1
    cases (Option.some.inj e)
    exact sl_list pins s σ H _ v vl vu lo hi sl Q I rx hs pl pu ⟨p, vs, rfl, .inl hp, fun z hz => k _ _ _ (Ext.laidF inn hz rfl) (.lst (.inl upd_same) ((rs.cut lo hi).mono (sub_upd (inn.free hz))))⟩
  | str z =>
    obtain ⟨rfl, ho⟩ := r1.str_inv
    cases (Option.some.inj e)
    refine sl_str pins s σ H _ v vl vu lo hi sl Q I rx hs pl pu ⟨z, rfl, ho.1, k _ F H (Ext.refl inn) (.str ?_)⟩
    refine ho.of_sub ?_ fun c hc => ?_
    · show ((z.cps.toList.drop _).take _).length ≤ _
      rw [List.length_take, List.length_drop]
      have := ho.1
      have e2 : z.cps.toList.length = z.length := by simp [Str.length]
      omega
    · exact List.mem_of_mem_drop (List.mem_of_mem_take hc)
  | _ => cases e

/-! ### built-ins -/
def rC (K : PySem.W.Frag) (b : Bt) (fr : Bool) : List V → Hp → VK → Prop := fun xs H Q => ∃ F ds d, Inn F H ∧ RepBs K F H xs ds ∧ btD b ds = some d ∧
  ∀ v F' H', Ext Nil F H F' H' → RepX fr K H F' H' v d → Q v H'
theorem RepBs.one {K : PySem.W.Frag} {F H : Hp} {xs : List V} {d : D} (r : RepBs K F H xs [d]) : ∃ x, xs = [x] ∧ RepB K F H x d := by
  cases r with
  | cons h r => cases r; exact ⟨_, rfl, h⟩
theorem RepBs.two {K : PySem.W.Frag} {F H : Hp} {xs : List V} {d e : D} (r : RepBs K F H xs [d, e]) : ∃ x y, xs = [x, y] ∧ RepB K F H x d ∧ RepB K F H y e := by
  cases r with
  | cons h r => obtain ⟨y, rfl, h2⟩ := r.one; exact ⟨_, _, rfl, h, h2⟩
theorem Reps.bools {K : PySem.W.Frag} {F : Hp} : ∀ {vs : List V} {ds : List D} {bs : List Bool}, Reps K F vs ds → boolsD ds = some bs → vs = bs.map V.bl
  | _, _, _, .nil, e => by cases e; rfl
  | _, _, bs, .cons (d := d) h r, e => by
    cases d with
    | bool b =>
      obtain ⟨cs, e1, rfl⟩ := Option.map_eq_some_iff.mp (show (boolsD _).map (b :: ·) = some bs from e)
      cases h
      rw [r.bools e1]; rfl
    | _ => cases e
theorem Reps.strs {K : PySem.W.Frag} {F : Hp} : ∀ {vs : List V} {ds : List D} {bs : List Str}, Reps K F vs ds → strsD ds = some bs → vs = bs.map V.str ∧ ∀ x ∈ bs, SOk x
  | _, _, _, .nil, e => by cases e; exact ⟨rfl, fun _ h => nomatch h⟩
  | _, _, bs, .cons (d := d) h r, e => by
    cases d with
    | str b =>
      obtain ⟨cs, e1, rfl⟩ := Option.map_eq_some_iff.mp (show (strsD _).map (b :: ·) = some bs from e)
      cases h with
      | str ho =>
        obtain ⟨h1, h2⟩ := r.strs e1
        exact ⟨by rw [h1]; rfl, fun x hx => by
          rcases List.mem_cons.mp hx with rfl | hx
          · exact ho
          · exact h2 x hx⟩
    | _ => cases e
theorem Reps.ints {K : PySem.W.Frag} {F : Hp} : ∀ {vs : List V} {ds : List D} {bs : List Int}, Reps K F vs ds → intsD ds = some bs → vs = bs.map V.int
  | _, _, _, .nil, e => by cases e; rfl
  | _, _, bs, .cons (d := d) h r, e => by
    cases d with
    | int b =>
      obtain ⟨cs, e1, rfl⟩ := Option.map_eq_some_iff.mp (show (intsD _).map (b :: ·) = some bs from e)
      cases h
      rw [r.ints e1]; rfl
    | _ => cases e
theorem reps_strs {K : PySem.W.Frag} {F : Hp} : ∀ {bs : List Str}, (∀ x ∈ bs, SOk x) → Reps K F (bs.map V.str) (bs.map PyData.str)
  | [], _ => .nil
  | b :: r, h => .cons (.str (h b (by simp))) (reps_strs fun x hx => h x (List.mem_cons_of_mem _ hx))
theorem len_inv {ds : List D} {d : D} (e : btD .len ds = some d) : (∃ x, ds = [.str x] ∧ d = .int x.length) ∨ (∃ xs, ds = [.list xs] ∧ d = .int xs.length) ∨ ∃ xs, ds = [.tuple xs] ∧ d = .int xs.length := by
  cases ds with
  | nil => cases e
  | cons a r =>
    cases r with
    | nil =>
      cases a with
      | str x => exact .inl ⟨x, rfl, (Option.some.inj e).symm⟩
      | list x => exact .inr (.inl ⟨x, rfl, (Option.some.inj e).symm⟩)
      | tuple x => exact .inr (.inr ⟨x, rfl, (Option.some.inj e).symm⟩)
      | _ => cases e
    | cons _ _ => cases a <;> cases e
theorem bt_len : CallR X (.builtin "len") (rC X.K .len false) := by
  intro pins s σ H xs us Q I r h
  obtain ⟨F, ds, d, inn, rs, e, k⟩ := h
  rcases len_inv e with ⟨x, rfl, rfl⟩ | ⟨x, rfl, rfl⟩ | ⟨x, rfl, rfl⟩
  · obtain ⟨v, rfl, h⟩ := rs.one
    obtain ⟨rfl, ho⟩ := h.str_inv
    exact call_len pins s σ H _ us Q I r ⟨_, _, rfl, ⟨ho.1, rfl⟩, k _ F H (Ext.refl inn) (Rep.int _)⟩
  · obtain ⟨v, rfl, p, vs, rfl, hp, hr⟩ := rs.one
    exact call_len pins s σ H _ us Q I r ⟨_, _, rfl, .inl ⟨vs, .inl hp, rfl⟩, by rw [hr.length]; exact k _ F H (Ext.refl inn) (Rep.int _)⟩
  · obtain ⟨v, rfl, h⟩ := rs.one
    obtain ⟨p, vs, rfl, hp, hr⟩ := h.tup_inv
    exact call_len pins s σ H _ us Q I r ⟨_, _, rfl, .inr ⟨vs, inn.sub.sqT hp.sqT, rfl⟩, by rw [hr.length]; exact k _ F H (Ext.refl inn) (Rep.int _)⟩
theorem all_inv {ds : List D} {d : D} (e : btD .all ds = some d) : ∃ xs bs, ds = [.list xs] ∧ boolsD xs = some bs ∧ d = .bool (bs.all id) := by
  cases ds with
  | nil => cases e
  | cons a r =>
    cases r with
    | nil =>
      cases a with
      | list x => obtain ⟨bs, e1, rfl⟩ := Option.map_eq_some_iff.mp (show (boolsD x).map (fun bs => (PyData.bool (bs.all id) : D)) = some d from e); exact ⟨x, bs, rfl, e1, rfl⟩
      | _ => cases e
    | cons _ _ => cases a <;> cases e
theorem any_inv {ds : List D} {d : D} (e : btD .any ds = some d) : ∃ xs bs, ds = [.list xs] ∧ boolsD xs = some bs ∧ d = .bool (bs.any id) := by
  cases ds with
  | nil => cases e
  | cons a r =>
    cases r with
    | nil =>
      cases a with
      | list x => obtain ⟨bs, e1, rfl⟩ := Option.map_eq_some_iff.mp (show (boolsD x).map (fun bs => (PyData.bool (bs.any id) : D)) = some d from e); exact ⟨x, bs, rfl, e1, rfl⟩
      | _ => cases e
    | cons _ _ => cases a <;> cases e
theorem bt_all (hc : X.calm = true) : CallR X (.builtin "all") (rC X.K .all false) := by
  intro pins s σ H xs us Q I r h
  obtain ⟨F, ds, d, inn, rs, e, k⟩ := h
  obtain ⟨x, bs, rfl, e1, rfl⟩ := all_inv e
  obtain ⟨v, rfl, p, vs, rfl, hp, hr⟩ := rs.one
  rw [hr.bools e1] at hp
  exact cr_all hc pins s σ H _ us Q I r ⟨p, bs, rfl, .inl hp, k _ F H (Ext.refl inn) (Rep.bl _)⟩
theorem bt_any (hc : X.calm = true) : CallR X (.builtin "any") (rC X.K .any false) := by
  intro pins s σ H xs us Q I r h
  obtain ⟨F, ds, d, inn, rs, e, k⟩ := h
  obtain ⟨x, bs, rfl, e1, rfl⟩ := any_inv e
  obtain ⟨v, rfl, p, vs, rfl, hp, hr⟩ := rs.one
  rw [hr.bools e1] at hp
  exact cr_any hc pins s σ H _ us Q I r ⟨p, bs, rfl, .inl hp, k _ F H (Ext.refl inn) (Rep.bl _)⟩
theorem tuple_inv {ds : List D} {d : D} (e : btD .tuple ds = some d) : ∃ xs, (ds = [.list xs] ∨ ds = [.tuple xs]) ∧ d = .tuple xs := by
  cases ds with
  | nil => cases e
  | cons a r =>
    cases r with
    | nil =>
      cases a with
      | list x => exact ⟨x, .inl rfl, (Option.some.inj e).symm⟩
      | tuple x => exact ⟨x, .inr rfl, (Option.some.inj e).symm⟩
      | _ => cases e
    | cons _ _ => cases a <;> cases e
theorem bt_tuple : CallR X (.type "tuple") (rC X.K .tuple false) := by
  intro pins s σ H xs us Q I r h
  obtain ⟨F, ds, d, inn, rs, e, k⟩ := h
  obtain ⟨x, rfl | rfl, rfl⟩ := tuple_inv e
  · obtain ⟨v, rfl, p, vs, rfl, hp, hr⟩ := rs.one
    exact call_tupleP pins s σ H _ us Q I r ⟨p, vs, rfl, .inl ⟨.inl hp, fun l o ho hl => k _ _ _ (Ext.laidF inn hl rfl) (Rep.tup (TupP.new ho) (hr.mono (sub_upd (inn.free hl))))⟩⟩
  · obtain ⟨v, rfl, h⟩ := rs.one
    obtain ⟨p, vs, rfl, hp, hr⟩ := h.tup_inv
    exact call_tupleP pins s σ H _ us Q I r ⟨p, vs, rfl, .inr ⟨inn.sub.sqT hp.sqT, k _ F H (Ext.refl inn) (Rep.tup hp hr)⟩⟩
theorem list_inv {ds : List D} {d : D} (e : btD .list ds = some d) : (∃ xs, (ds = [.list xs] ∨ ds = [.tuple xs]) ∧ d = .list xs) ∨ ∃ kvs, ds = [.dict kvs] ∧ d = .list (kvs.map (·.1)) := by
  cases ds with
  | nil => cases e
  | cons a r =>
    cases r with
    | nil =>
      cases a with
      | list x => exact .inl ⟨x, .inl rfl, (Option.some.inj e).symm⟩
      | tuple x => exact .inl ⟨x, .inr rfl, (Option.some.inj e).symm⟩
      | dict x => exact .inr ⟨x, rfl, (Option.some.inj e).symm⟩
      | _ => cases e
    | cons _ _ => cases a <;> cases e
theorem RepK.keys {K : PySem.W.Frag} {F G : Hp} : ∀ {kvs : List (Key × V)} {ds : List (D × D)}, RepK K F kvs ds → Reps K G (kvs.map fun kv => kV kv.1) (ds.map (·.1))
  | _, _, .nil => .nil
  | _, _, .cons (k := k) hk _ r => by
    refine .cons ?_ r.keys
    cases k with
    | inl i => exact .int i
    | inr x => exact .str hk
theorem bt_list (hc : X.calm = true) : CallR X (.type "list") (rC X.K .list true) := by
  intro pins s σ H xs us Q I r h
  obtain ⟨F, ds, d, inn, rs, e, k⟩ := h
  rcases list_inv e with ⟨x, rfl | rfl, rfl⟩ | ⟨kvs, rfl, rfl⟩
  · obtain ⟨v, rfl, p, vs, rfl, hp, hr⟩ := rs.one
    exact call_list_of pins s σ H _ us Q I r ⟨p, vs, rfl, .inl (.inl hp), fun l hl => k _ F _ (Ext.laid inn hl) ⟨l, vs, rfl, hl, inn.free hl, upd_same, hr⟩⟩
  · obtain ⟨v, rfl, h⟩ := rs.one
    obtain ⟨p, vs, rfl, hp, hr⟩ := h.tup_inv
    exact call_list_of pins s σ H _ us Q I r ⟨p, vs, rfl, .inr (inn.sub.sqT hp.sqT), fun l hl => k _ F _ (Ext.laid inn hl) ⟨l, vs, rfl, hl, inn.free hl, upd_same, hr⟩⟩
  · obtain ⟨v, rfl, p, vs, rfl, hp, hr⟩ := rs.one
    exact call_listD hc pins s σ H _ us Q I r ⟨p, vs, rfl, hp, fun l hl => k _ F _ (Ext.laid inn hl) ⟨l, _, rfl, hl, inn.free hl, upd_same, hr.keys⟩⟩

/-! ### sorted texts -/
theorem ltS_iff {a b : Str} : ltS a b = true ↔ a.cps.toList < b.cps.toList := by unfold ltS; exact decide_eq_true_iff
theorem str_ext {a b : Str} (h : a.cps.toList = b.cps.toList) : a = b := by
  obtain ⟨x⟩ := a; obtain ⟨y⟩ := b
  congr 1
  exact Array.toList_inj.mp h
theorem lt_tri (a b : List Nat) : a < b ∨ a = b ∨ b < a := by
  rcases Std.lt_trichotomy a b with h | h | h
  · exact .inl h
  · exact .inr (.inl h)
  · exact .inr (.inr h)
theorem insS_perm (x : Str) : ∀ l : List Str, (insS x l).Perm (x :: l)
  | [] => List.Perm.refl _
  | y :: r => by
    unfold insS
    split
    · exact ((insS_perm x r).cons y).trans (List.Perm.swap x y r)
    · exact List.Perm.refl _
theorem sortS_perm : ∀ l : List Str, (sortS l).Perm l
  | [] => List.Perm.refl _
  | x :: r => (insS_perm x (sortS r)).trans ((sortS_perm r).cons x)
def LeS (a b : Str) : Prop := ltS b a = false
theorem LeS.trans {a b c : Str} (h1 : LeS a b) (h2 : LeS b c) : LeS a c := by
  unfold LeS at *
  cases e : ltS c a with
  | false => rfl
  | true =>
    have hca := ltS_iff.mp e
    have n1 : ¬ b.cps.toList < a.cps.toList := fun z => by rw [ltS_iff.mpr z] at h1; cases h1
    have n2 : ¬ c.cps.toList < b.cps.toList := fun z => by rw [ltS_iff.mpr z] at h2; cases h2
    rcases lt_tri b.cps.toList c.cps.toList with z | z | z
    · exact absurd (List.lt_trans z hca) n1
    · rw [← z] at hca; exact absurd hca n1
    · exact absurd z n2
theorem LeS.anti {a b : Str} (h1 : LeS a b) (h2 : LeS b a) : a = b := by
  rcases lt_tri a.cps.toList b.cps.toList with z | z | z
  · unfold LeS at h2; rw [ltS_iff.mpr z] at h2; cases h2
  · exact str_ext z
  · unfold LeS at h1; rw [ltS_iff.mpr z] at h1; cases h1
theorem LeS.of_lt {a b : Str} (h : ltS a b = true) : LeS a b := by
  unfold LeS
  cases e : ltS b a with
  | false => rfl
  | true => exact absurd (List.lt_trans (ltS_iff.mp h) (ltS_iff.mp e)) (List.lt_irrefl _)
theorem insS_sorted (x : Str) : ∀ l : List Str, l.Pairwise LeS → (insS x l).Pairwise LeS
  | [], _ => List.pairwise_singleton _ _
  | y :: r, h => by
    unfold insS
    obtain ⟨h1, h2⟩ := List.pairwise_cons.mp h
    split
    · rename_i hy
      refine List.pairwise_cons.mpr ⟨fun z hz => ?_, insS_sorted x r h2⟩
      rcases List.mem_cons.mp ((insS_perm x r).mem_iff.mp hz) with rfl | hz
      · exact LeS.of_lt hy
      · exact h1 z hz
    · rename_i hy
      have hxy : LeS x y := by simpa [LeS] using hy
      refine List.pairwise_cons.mpr ⟨fun z hz => ?_, h⟩
      rcases List.mem_cons.mp hz with rfl | hz
      · exact hxy
      · exact hxy.trans (h1 z hz)
theorem sortS_sorted : ∀ l : List Str, (sortS l).Pairwise LeS
  | [] => List.Pairwise.nil
  | x :: r => insS_sorted x _ (sortS_sorted r)
theorem sorted_one : ∀ {l m : List Str}, l.Perm m → l.Pairwise LeS → m.Pairwise LeS → l = m
  | [], m, p, _, _ => by rw [List.nil_perm.mp p]
  | x :: l, m, p, h1, h2 => by
    cases m with
    | nil => exact absurd p.length_eq (by simp)
    | cons y m =>
      obtain ⟨a1, a2⟩ := List.pairwise_cons.mp h1
      obtain ⟨b1, b2⟩ := List.pairwise_cons.mp h2
      have e : x = y := by
        have hx : x ∈ y :: m := p.mem_iff.mp (by simp)
        have hy : y ∈ x :: l := p.mem_iff.mpr (by simp)
        rcases List.mem_cons.mp hx with h | h
        · exact h
        · rcases List.mem_cons.mp hy with h' | h'
          · exact h'.symm
          · exact LeS.anti (a1 y h') (b1 x h)
      subst e
      rw [sorted_one (List.Perm.cons_inv p) a2 b2]
theorem sortedS_pairwise : ∀ {l : List Str}, sortedS l = true → l.Pairwise LeS := by
  have lt : ∀ a b : Str, ltCps a.cps.toList b.cps.toList = ltS a b := fun a b => by
    unfold ltS
    first | rfl | exact ltCps_eq _ _ | (rw [ltCps_decide])
  have up : ∀ (l : List Str) (p : Str), risingS p l = true → (p :: l).Pairwise LeS := by
    intro l
    induction l with
    | nil => intro p _; exact List.pairwise_singleton _ _
    | cons x r ih =>
      intro p h
      have h : (!ltCps x.cps.toList p.cps.toList && risingS x r) = true := h
      rw [lt, Bool.and_eq_true] at h
      have hpx : LeS p x := by simpa [LeS] using h.1
      have hr := ih x h.2
      refine List.pairwise_cons.mpr ⟨fun z hz => ?_, hr⟩
      rcases List.mem_cons.mp hz with rfl | hz
      · exact hpx
      · exact hpx.trans ((List.pairwise_cons.mp hr).1 z hz)
  intro l h
  cases l with
  | nil => exact List.Pairwise.nil
  | cons x r => exact up r x h
end
end G7

namespace G7
open L2 PyProof.Rows PySem.Spec PySem
/-! ### sorted(xs), tuples whose first items are texts, no two the same -/
/-- the first of a tuple is the text k -/
def Fst (K : PySem.W.Frag) (H : Hp) (t : Addr) (k : Str) : Prop := ∃ us, SqT K H t (.str k :: us)
/-- .. the keys told beside the tuples -/
theorem look_some {α β : Type} [BEq α] [LawfulBEq α] {p : α × β} : ∀ {l : List (α × β)}, p ∈ l → ∃ k, l.lookup p.1 = some k ∧ (p.1, k) ∈ l
  | (a, b) :: l, h => by
    rw [List.lookup_cons]
    cases e : p.1 == a with
    | true =>
      have e := eq_of_beq e
      exact ⟨b, rfl, by rw [e]; exact List.mem_cons_self⟩
    | false =>
      rcases List.mem_cons.mp h with rfl | h
      · simp at e
      · obtain ⟨k, h1, h2⟩ := look_some h
        exact ⟨k, h1, List.mem_cons_of_mem _ h2⟩
theorem look_nodup {α β : Type} [BEq α] [LawfulBEq α] {p : α × β} : ∀ {l : List (α × β)}, (l.map (·.1)).Nodup → p ∈ l → l.lookup p.1 = some p.2
  | (a, b) :: l, nd, h => by
    obtain ⟨n1, n2⟩ := List.nodup_cons.mp nd
    rw [List.lookup_cons]
    rcases List.mem_cons.mp h with rfl | h
    · simp
    · have : (p.1 == a) = false := by
        cases e : p.1 == a with
        | false => rfl
        | true => exact absurd (List.mem_map.mpr ⟨p, h, eq_of_beq e⟩) n1
      rw [this]
      exact look_nodup n2 h
theorem insP_perm (x : Str × D) : ∀ l, (insP x l).Perm (x :: l)
  | [] => List.Perm.refl _
  | y :: r => by
    unfold insP
    split
    · exact ((insP_perm x r).cons y).trans (List.Perm.swap x y r)
    · exact List.Perm.refl _
theorem sortP_perm : ∀ l, (sortP l).Perm l
  | [] => List.Perm.refl _
  | x :: r => (insP_perm x (sortP r)).trans ((sortP_perm r).cons x)
theorem insP_fst (x : Str × D) : ∀ l, (insP x l).map (·.1) = insS x.1 (l.map (·.1))
  | [] => rfl
  | y :: r => by
    unfold insP
    rw [List.map_cons]
    unfold insS
    split
    · rw [List.map_cons, insP_fst x r]
    · rfl
theorem sortP_fst : ∀ l, (sortP l).map (·.1) = sortS (l.map (·.1))
  | [] => rfl
  | x :: r => by
    show (insP x (sortP r)).map (·.1) = insS x.1 (sortS (r.map (·.1)))
    rw [insP_fst, sortP_fst r]
theorem Reps.keyed {K : PySem.W.Frag} {F : Hp} : ∀ {vs : List V} {ds : List D} {ps : List (Str × D)}, Reps K F vs ds → keyedD ds = some ps → ∃ as : List (Addr × Str), vs = as.map (fun p => V.ref p.1) ∧ as.map (·.2) = ps.map (·.1) ∧ (∀ p ∈ as, Fst K F p.1 p.2) ∧ ∀ (dO : Str → D), (∀ p ∈ ps, dO p.1 = p.2) → ∀ p ∈ as, Rep K F (.ref p.1) (dO p.2)
  | _, _, _, .nil, h => by cases h; exact ⟨[], rfl, rfl, fun _ h => (by cases h), fun _ _ _ h => by cases h⟩
  | _, _, ps, .cons (v := v) (vs := vs) (d := d) (ds := ds) r rs, h => by
    cases r with
    | tup hp hr =>
      rename_i a us es
      cases hr with
      | nil => cases h
      | @cons u us' e es' r1 rs1 =>
        cases e with
        | str k =>
          have h : (keyedD ds).map ((k, .tuple (.str k :: es')) :: ·) = some ps := h
          obtain ⟨qs, hq, rfl⟩ := Option.map_eq_some_iff.mp h
          obtain ⟨as, h1, h2, h3, h4⟩ := Reps.keyed rs hq
          cases r1 with
          | str ho =>
            refine ⟨(a, k) :: as, by rw [h1]; rfl, by rw [List.map_cons, List.map_cons, h2], fun p hp' => ?_, fun dO hd p hp' => ?_⟩
            · rcases List.mem_cons.mp hp' with rfl | hp'
              · exact ⟨us', hp.sqT⟩
              · exact h3 p hp'
            · rcases List.mem_cons.mp hp' with rfl | hp'
              · show Rep K F (.ref a) (dO k)
                rw [hd (k, .tuple (.str k :: es')) List.mem_cons_self]
                exact .tup hp (.cons (.str ho) rs1)
              · exact h4 dO (fun p hp => hd p (List.mem_cons_of_mem _ hp)) p hp'
        | _ => cases h
    | _ => cases h
theorem reps_map {K : PySem.W.Frag} {F : Hp} {α : Type} {f : α → V} {g : α → D} : ∀ {l : List α}, (∀ a ∈ l, Rep K F (f a) (g a)) → Reps K F (l.map f) (l.map g)
  | [], _ => .nil
  | a :: l, h => .cons (h a List.mem_cons_self) (reps_map fun b hb => h b (List.mem_cons_of_mem _ hb))
theorem keyed_sorted {ps : List (Str × D)} (nd : (ps.map (·.1)).Nodup) {bs : List (Addr × Str)} {as : List (Addr × Str)} (hp : bs.Perm as) (ha : as.map (·.2) = ps.map (·.1)) (hs : (bs.map (·.2)).Pairwise LeS) :
    ∃ dO : Str → D, (∀ p ∈ ps, dO p.1 = p.2) ∧ (sortP ps).map (·.2) = bs.map fun p => dO p.2 := by
  refine ⟨fun k => (ps.lookup k).getD .none, fun p hp' => ?_, ?_⟩
  · show (ps.lookup p.1).getD .none = p.2
    rw [look_nodup nd hp']
    rfl
  · have e1 : bs.map (·.2) = (sortP ps).map (·.1) := by
      rw [sortP_fst]
      refine sorted_one ?_ hs (sortS_sorted _)
      have := hp.map (·.2)
      rw [ha] at this
      exact this.trans (sortS_perm _).symm
    have e2 : bs.map (fun p => (ps.lookup p.2).getD .none) = (bs.map (·.2)).map fun k => (ps.lookup k).getD .none := by rw [List.map_map]; rfl
    rw [e2, e1, List.map_map]
    refine List.map_congr_left fun p hp' => ?_
    have hm := (sortP_perm ps).mem_iff.mp hp'
    show p.2 = (ps.lookup p.1).getD .none
    rw [look_nodup nd hm]
    rfl
section
variable {prog : Program} {w : World} {A : Around} {s : Shared}
/-- a tuple whose first item is the text k -/
def IsF (h : Heap) (v : Value) (k : Str) : Prop := ∃ (a : Addr) (o : Obj) (xs : Array Value) (n : Nat) (t : Tok) (r : List Value), v = .ref a ∧ h.get? a = some o ∧ o.cls = .type "tuple" ∧ o.data = .seq xs n ∧ xs.toList = .str k t :: r
theorem IsF.keeps {h h' : Heap} {v : Value} {k : Str} (x : IsF h v k) (kp : ∀ b o, h.get? b = some o → o.cls = .type "tuple" → h'.get? b = some o) : IsF h' v k := by
  obtain ⟨a, o, xs, n, t, r, e, ho, hc, hd, hx⟩ := x
  exact ⟨a, o, xs, n, t, r, e, kp a o ho hc, hc, hd, hx⟩
theorem swo_key (k : Value → Str) : SrtO.Swo fun v u => ltS (k v) (k u) := by
  refine ⟨fun x y h => ?_, fun x y z h1 h2 => ?_⟩
  · have a := of_decide_eq_true (p := (k x).cps.toList < (k y).cps.toList) h
    exact decide_eq_false (p := (k y).cps.toList < (k x).cps.toList) (List.lt_asymm a)
  · have a := of_decide_eq_false (p := (k y).cps.toList < (k x).cps.toList) h1
    have b := of_decide_eq_false (p := (k z).cps.toList < (k y).cps.toList) h2
    exact decide_eq_false (p := (k z).cps.toList < (k x).cps.toList) (fun c => by
      have h1 := List.not_lt.mp a
      have h2 := List.not_lt.mp b
      exact absurd c (List.not_lt.mpr (List.le_trans h1 h2)))
theorem kat_same {fin : Bool} {Q : Bool → Shared → Prop} (h : Q fin s) : ∀ (l : List Value) (i : Nat), PySem.W.KatLex prog w A true fin Q (l.zip l) i s
  | [], i => PySem.W.kat_nil h
  | v :: l, i => PySem.W.kat_cons (SeqAt.EqAt.same v prog w _ _ (PySem.W.kat_yes (kat_same h l (i + 1))))
theorem ltS_irr (x : Str) : ltS x x = false := decide_eq_false (p := x.cps.toList < x.cps.toList) (List.lt_irrefl _)
theorem key_cmp {vs : List Value} {k : Value → Str} (hp : ∀ v ∈ vs, IsF s.heap v (k v)) (hi : ∀ v ∈ vs, ∀ u ∈ vs, k v = k u → v = u) : SrtO.Cmp prog w A s (tuples' true) (fun p => p.1 ∈ vs) (SrtO.lt2 fun v u => ltS (k v) (k u)) := by
  intro p q hm hm'
  have h1 := hp _ hm
  have h2 := hp _ hm'
  have hi := hi _ hm _ hm'
  show wpAny (model prog w) A (keyLt' (tuples' true) p.1 q.1) (fun r s' => s' = s ∧ r = ltS (k p.1) (k q.1)) (fun _ _ => False) s
  by_cases e : k p.1 = k q.1
  · have e2 := hi e
    obtain ⟨a, o, xs, n, t, r, ev, ho, hc, hd, hx⟩ := h1
    rw [← e2, ltS_irr, ev]
    refine PySem.W.kat_lt ho hd ho hd (kat_same ⟨rfl, ?_⟩ _ 0)
    exact decide_eq_false (Nat.lt_irrefl _)
  · obtain ⟨a, o, xs, n, t, r, ev, ho, hc, hd, hx⟩ := h1
    obtain ⟨a', o', xs', n', t', r', ev', ho', hc', hd', hx'⟩ := h2
    generalize k p.1 = x at *
    generalize k q.1 = y at *
    rw [ev, ev']
    refine PySem.W.kat_lt ho hd ho' hd' ?_
    rw [hx, hx', List.zip_cons_cons]
    refine PySem.W.kat_cons (SeqAt.EqAt.str_str x t y t' prog w _ _ ?_)
    have ne : (x == y) = false := by
      cases z : x == y with
      | false => rfl
      | true => exact absurd (eq_of_beq z) e
    rw [ne]
    exact PySem.W.kat_no (oneLt_str (Q := fun r s' => s' = s ∧ r = ltS x y) ⟨rfl, rfl⟩)
theorem kat_firsts_of : ∀ {vs : List Value} {k : Value → Str} {h : Heap}, (∀ v ∈ vs, IsF h v (k v)) → ∃ fs : List Value, PySem.W.KatTups h vs fs ∧ fs.length = vs.length ∧ ∀ f ∈ fs, ∃ x t, f = .str x t
  | [], _, _, _ => ⟨[], PySem.W.KatTups.nil, rfl, fun _ h => (by cases h)⟩
  | v :: vs, k, h, hp => by
    obtain ⟨fs, h1, h2, h3⟩ := kat_firsts_of (vs := vs) (k := k) fun u hu => hp u (List.mem_cons_of_mem _ hu)
    obtain ⟨a, o, xs, n, t, r, ev, ho, hc, hd, hx⟩ := hp v List.mem_cons_self
    subst ev
    refine ⟨.str (k (.ref a)) t :: fs, PySem.W.KatTups.cons ho hc hd ?_ h1, by rw [List.length_cons, List.length_cons, h2], fun f hf => ?_⟩
    · rw [← Array.getElem?_toList, hx]; rfl
    · rcases List.mem_cons.mp hf with rfl | hf
      · exact ⟨_, _, rfl⟩
      · exact h3 f hf
theorem key_sortable {a : Addr} {vs : List Value} {k : Value → Str} (h0 : 0 < vs.length) (hp : ∀ v ∈ vs, IsF s.heap v (k v)) (hi : ∀ v ∈ vs, ∀ u ∈ vs, k v = k u → v = u) (ha : ∀ o, s.heap.get? a = some o → o.cls ≠ .type "tuple") : SrtO.SortableO prog w A s a vs fun v u => ltS (k v) (k u) := by
  intro h' keep
  have hp' : ∀ v ∈ vs, IsF h' v (k v) := fun v hm => (hp v hm).keeps fun b o e c => keep b o (fun z => by subst z; exact ha o e c) e
  obtain ⟨fs, h1, h2, h3⟩ := kat_firsts_of hp'
  refine ⟨tuples' true, fun Q E hq => ?_, key_cmp (s := { s with heap := h' }) hp' hi⟩
  refine PySem.W.kat_kind (s := { s with heap := h' }) (T := .type "str") h1 (by omega) (fun f hm => ?_) (by rfl) ?_
  · obtain ⟨x, t, rfl⟩ := h3 f hm
    exact PySem.W.Looks.now
  · have e : (Value.type "str" != Value.type "tuple") = true := by first | decide +kernel | rfl | decide
    rw [e]
    exact hq
end
section
variable {X : Cx}
def rSrtK (K : PySem.W.Frag) : List V → Hp → VK → Prop := fun xs H Q => ∃ (l : Addr) (as : List (Addr × Str)), xs = [V.ref l] ∧ SqL K H l (as.map fun p => V.ref p.1) ∧ (∀ p ∈ as, Fst K H p.1 p.2) ∧ (as.map (·.2)).Nodup ∧
  ∀ (bs : List (Addr × Str)) (p : Addr), bs.Perm as → (bs.map (·.2)).Pairwise LeS → H p = none → Q (.ref p) (upd H p (.lst (bs.map fun p => V.ref p.1)))
theorem cr_srtK : CallR X (.builtin "sorted") (rSrtK X.K) := by
  intro pins s σ H xs us Q I rx h
  obtain ⟨l, as, rfl, hl, hk, nd, hq⟩ := h
  rw [Vals.ref1 rx]
  obtain ⟨its, rv, pl, hz⟩ := I.list hl
  have rv' : Vals ((as.map (·.1)).map V.ref) its := by rw [List.map_map]; exact rv
  have e1 := nts_of rv'
  subst e1
  have hsl : ((as.map (·.1)).map Value.ref).length ≤ sizeLine := by rw [List.length_map, List.length_map]; rw [List.length_map] at hz; exact hz
  have hF : ∀ p ∈ as, IsF s.heap (.ref p.1) p.2 := fun p hp => by
    obtain ⟨us1, h1⟩ := hk p hp
    obtain ⟨i1, r1, p1, _⟩ := I.tuple h1
    obtain ⟨o1, a1, b1, n1, c1⟩ := p1
    cases r1 with
    | cons x1 _ =>
      obtain ⟨t1, e1⟩ := x1
      subst e1
      exact ⟨p.1, o1, _, n1, t1, _, rfl, a1, b1, c1, rfl⟩
  have one : ∀ p ∈ as, ∀ q ∈ as, p.1 = q.1 → p.2 = q.2 := fun p hp q hq' e => by
    obtain ⟨a, o, xs, n, t, r, ev, ho, hc, hd, hx⟩ := hF p hp
    obtain ⟨a', o', xs', n', t', r', ev', ho', hc', hd', hx'⟩ := hF q hq'
    cases ev
    cases ev'
    rw [e, ho'] at ho
    cases ho
    rw [hd] at hd'
    injection hd' with e3 _
    rw [e3, hx'] at hx
    injection hx with e4 _
    injection e4 with e5 _
    exact e5.symm
  obtain ⟨key, hkey⟩ : ∃ key : Value → Str, ∀ p ∈ as, key (.ref p.1) = p.2 := by
    refine ⟨fun v => match v with | .ref a => (as.lookup a).getD Str.empty | _ => Str.empty, fun p hp => ?_⟩
    obtain ⟨k, hk', hm⟩ := look_some hp
    show (as.lookup p.1).getD Str.empty = p.2
    rw [hk']
    exact one (p.1, k) hm p hp rfl
  have hp : ∀ v ∈ (as.map (·.1)).map Value.ref, IsF s.heap v (key v) := fun v hv => by
    obtain ⟨a, ha, rfl⟩ := List.mem_map.mp hv
    obtain ⟨p, hp, rfl⟩ := List.mem_map.mp ha
    rw [hkey p hp]
    exact hF p hp
  have inj : ∀ p ∈ as, ∀ q ∈ as, p.2 = q.2 → p = q := fun p hp q hq' e => by
    have := look_nodup (l := as.map fun p => (p.2, p.1)) (p := (p.2, p.1)) (by rw [List.map_map]; exact nd) (List.mem_map.mpr ⟨p, hp, rfl⟩)
    have h2 := look_nodup (l := as.map fun p => (p.2, p.1)) (p := (q.2, q.1)) (by rw [List.map_map]; exact nd) (List.mem_map.mpr ⟨q, hq', rfl⟩)
    have h3 : (as.map fun p => (p.2, p.1)).lookup p.2 = some p.1 := this
    have h4 : (as.map fun p => (p.2, p.1)).lookup q.2 = some q.1 := h2
    rw [e, h4] at h3
    exact Prod.ext (Option.some.inj h3).symm e
  have hi : ∀ v ∈ (as.map (·.1)).map Value.ref, ∀ u ∈ (as.map (·.1)).map Value.ref, key v = key u → v = u := fun v hv u hu e => by
    obtain ⟨a, ha, rfl⟩ := List.mem_map.mp hv
    obtain ⟨p, hp, rfl⟩ := List.mem_map.mp ha
    obtain ⟨b, hb, rfl⟩ := List.mem_map.mp hu
    obtain ⟨q, hq', rfl⟩ := List.mem_map.mp hb
    rw [hkey p hp, hkey q hq'] at e
    rw [inj p hp q hq' e]
  refine SrtO.sorted_ord (swo_key key) pl.isList hsl (fun h2 h₁ a ha kk => ?_) fun out hs hb => ?_
  · refine key_sortable (s := { s with heap := h₁ }) (by omega) (fun v hm => (hp v hm).keeps fun b o e _ => (kk b o e).2) hi fun o e => ?_
    have e' : some o = some (seqObj "list" ((as.map (·.1)).map Value.ref).toArray 0) := e.symm.trans ha
    cases e'
    intro c
    exact absurd (Value.type.inj c) (by decide)
  · have hperm : out.Perm ((as.map (·.1)).map Value.ref) := hb.perm
    have ref : ∀ v ∈ out, ∃ a, v = Value.ref a := fun v hv => by
      obtain ⟨a, _, e⟩ := List.mem_map.mp (hperm.mem_iff.mp hv)
      exact ⟨a, e.symm⟩
    have eo := ref_map ref
    have hpm : (out.map adO).Perm (as.map (·.1)) := by
      have := hperm.map adO
      rwa [ad_map] at this
    have hn : H (s.heap.objs.size + 1) = none := I.hok.fresh (Nat.le_succ _)
    obtain ⟨c, hout⟩ := sortedAll_at s.heap ((as.map (·.1)).map Value.ref) out.toArray
    have back : (as.map (·.1)).map (fun a => (a, key (.ref a))) = as := by
      rw [List.map_map]
      conv => rhs; rw [← List.map_id as]
      refine List.map_congr_left fun p hp => ?_
      show (p.1, key (.ref p.1)) = p
      rw [hkey p hp]
    have hbs : ((out.map adO).map fun a => (a, key (.ref a))).Perm as := by
      have := hpm.map (fun a => (a, key (.ref a)))
      rwa [back] at this
    have hss : (((out.map adO).map fun a => (a, key (.ref a))).map (·.2)).Pairwise LeS := by
      rw [List.map_map, List.map_map, List.pairwise_map]
      refine List.Pairwise.imp_of_mem (fun {v u} hv hu z => ?_) hs
      obtain ⟨a, rfl⟩ := ref v hv
      obtain ⟨b, rfl⟩ := ref u hu
      exact z
    have hq1 := hq _ (s.heap.objs.size + 1) hbs hss hn
    rw [List.map_map] at hq1
    refine ⟨.ref (s.heap.objs.size + 1), upd H (s.heap.objs.size + 1) (.lst ((out.map adO).map V.ref)), I.laid (t' := s.toks) (fun b o e => sortedAll_old e) (Nat.le_succ _) ?_, rfl, hq1⟩
    refine ⟨by rw [List.length_map, hpm.length_eq, List.length_map]; rw [List.length_map] at hz; exact hz, out, c, ?_, hout⟩
    have := of_nts (out.map adO)
    rwa [← eo] at this
end
end G7

namespace G7
open L2 PyProof.Rows PySem.Spec PySem
section
variable {X : Cx}
theorem srt_new {K : PySem.W.Frag} {F H : Hp} {Q : VK} {ss ys : List Str} {p : Addr} (inn : Inn F H) (ho : ∀ x ∈ ss, SOk x) (hp : ys.Perm ss) (hs : sortedS ys = true) (h0 : H p = none)
    (k : ∀ v F' H', Ext Nil F H F' H' → RepX true K H F' H' v (.list ((sortS ss).map .str)) → Q v H') : Q (.ref p) (upd H p (.lst (ys.map V.str))) := by
  have e : ys = sortS ss := sorted_one (hp.trans (sortS_perm ss).symm) (sortedS_pairwise hs) (sortS_sorted ss)
  subst e
  exact k _ F _ (Ext.laid inn h0) ⟨p, _, rfl, h0, inn.free h0, upd_same, reps_strs fun x hx => ho x ((sortS_perm ss).mem_iff.mp hx)⟩
theorem sorted_inv {ds : List D} {d : D} (e : btD .sorted ds = some d) : (∃ xs, ds = [.list xs] ∧ srtL xs = some d) ∨ ∃ kvs, ds = [.dict kvs] ∧ srtD (kvs.map (·.1)) = some d := by
  cases ds with
  | nil => cases e
  | cons a r =>
    cases r with
    | nil =>
      cases a with
      | list x => exact .inl ⟨x, rfl, e⟩
      | dict x => exact .inr ⟨x, rfl, e⟩
      | _ => cases e
    | cons _ _ => cases a <;> cases e
theorem srtD_inv {xs : List D} {d : D} (e : srtD xs = some d) : ∃ ss, strsD xs = some ss ∧ ss.length < 64 ∧ d = .list ((sortS ss).map .str) := by
  unfold srtD at e
  cases h : strsD xs with
  | none => rw [h] at e; cases e
  | some ss =>
    rw [h] at e
    have e : (if ss.length < 64 then some (PyData.list ((sortS ss).map .str)) else none) = some d := e
    split at e
    · rename_i h1; exact ⟨ss, rfl, h1, (Option.some.inj e).symm⟩
    · cases e
theorem srtL_inv {xs : List D} {d : D} (e : srtL xs = some d) : (∃ ss, strsD xs = some ss ∧ ss.length < 64 ∧ d = .list ((sortS ss).map .str)) ∨ ∃ ps, keyedD xs = some ps ∧ (ps.map (·.1)).Nodup ∧ ps.length < 64 ∧ d = .list ((sortP ps).map (·.2)) := by
  unfold srtL at e
  cases h : strsD xs with
  | some ss =>
    rw [h] at e
    obtain ⟨ss', h1, h2⟩ := srtD_inv e
    rw [h] at h1
    cases h1
    exact .inl ⟨ss, rfl, h2⟩
  | none =>
    rw [h] at e
    have e : keyS xs = some d := e
    unfold keyS at e
    cases hk : keyedD xs with
    | none => rw [hk] at e; cases e
    | some ps =>
      rw [hk] at e
      have e : (if (ps.map (·.1)).Nodup ∧ ps.length < 64 then some (PyData.list ((sortP ps).map (·.2))) else none) = some d := e
      split at e
      · rename_i hc
        exact .inr ⟨ps, rfl, hc.1, hc.2, (Option.some.inj e).symm⟩
      · cases e
theorem keys_strs : ∀ {kvs : List (Key × V)} {ss : List Str}, (kvs.map fun kv => kV kv.1) = ss.map V.str → kvs.map (·.1) = ss.map Sum.inr
  | [], [], _ => rfl
  | [], _ :: _, h => by cases h
  | _ :: _, [], h => by cases h
  | (k, v) :: r, s :: t, h => by
    rw [List.map_cons, List.map_cons] at h
    injection h with h1 h2
    rw [List.map_cons, List.map_cons, keys_strs h2]
    cases k with
    | inl i => cases h1
    | inr x => cases h1; rfl
theorem bt_sorted (hc : X.calm = true) : CallR X (.builtin "sorted") (rC X.K .sorted true) := by
  intro pins s σ H xs us Q I r h
  obtain ⟨F, ds, d, inn, rs, e, k⟩ := h
  rcases sorted_inv e with ⟨x, rfl, e1⟩ | ⟨kvs, rfl, e1⟩
  · rcases srtL_inv e1 with ⟨ss, e2, h64, rfl⟩ | ⟨ps, e2, hnd, h64, rfl⟩
    case' inr =>
      obtain ⟨v, rfl, p, vs, rfl, hp, hr⟩ := rs.one
      obtain ⟨as, rfl, h2, h3, h4⟩ := hr.keyed e2
      refine cr_srtK pins s σ H _ us Q I r ⟨p, as, rfl, .inl hp, fun p hp' => ?_, by rw [h2]; exact hnd, fun bs p' hpm hsr hp' => ?_⟩
      · obtain ⟨us, hu⟩ := h3 p hp'
        exact ⟨us, inn.sub.sqT hu⟩
      · obtain ⟨dO, hdO, hdd⟩ := keyed_sorted hnd hpm h2 hsr
        refine k _ F _ (Ext.laid inn hp') ⟨p', _, rfl, hp', inn.free hp', upd_same, ?_⟩
        rw [hdd]
        exact reps_map fun p hpb => h4 dO hdO p (hpm.mem_iff.mp hpb)
    obtain ⟨v, rfl, p, vs, rfl, hp, hr⟩ := rs.one
    obtain ⟨rfl, ho⟩ := hr.strs e2
    exact cr_sortedS pins s σ H _ us Q I r ⟨p, ss, rfl, .inl hp, h64, fun ys q h1 h2 h3 => srt_new inn ho h1 h2 h3 k⟩
  · obtain ⟨ss, e2, h64, rfl⟩ := srtD_inv e1
    obtain ⟨v, rfl, p, vs, rfl, hp, hr⟩ := rs.one
    obtain ⟨h1, ho⟩ := (hr.keys (G := F)).strs e2
    exact call_sortedD hc pins s σ H _ us Q I r ⟨p, vs, ss, rfl, hp, keys_strs h1, h64, fun ys q h1 h2 h3 => srt_new inn ho h1 h2 h3 k⟩
theorem int_inv {ds : List D} {d : D} (e : btD .int ds = some d) : (∃ i, ds = [.int i] ∧ d = .int i) ∨ (∃ b, ds = [.bool b] ∧ d = .int (if b then 1 else 0)) ∨ ∃ a n, ds = [.str a] ∧ a.length ≤ 640 ∧ PySem.intText? a = some n ∧ d = .int n := by
  cases ds with
  | nil => cases e
  | cons a r =>
    cases r with
    | nil =>
      cases a with
      | int x => exact .inl ⟨x, rfl, (Option.some.inj e).symm⟩
      | bool x => exact .inr (.inl ⟨x, rfl, (Option.some.inj e).symm⟩)
      | str x =>
        have e : (if x.length ≤ 640 then (PySem.intText? x).map PyData.int else none) = some d := e
        split at e
        · rename_i h
          obtain ⟨n, h1, h2⟩ := Option.map_eq_some_iff.mp e
          exact .inr (.inr ⟨x, n, rfl, h, h1, h2.symm⟩)
        · cases e
      | _ => cases e
    | cons _ _ => cases a <;> cases e
theorem bt_int : CallR X (.type "int") (rC X.K .int false) := by
  intro pins s σ H xs us Q I r h
  obtain ⟨F, ds, d, inn, rs, e, k⟩ := h
  rcases int_inv e with ⟨x, rfl, rfl⟩ | ⟨x, rfl, rfl⟩ | ⟨a, n, rfl, hl, hn, rfl⟩
  · obtain ⟨v, rfl, h⟩ := rs.one
    cases h.int_inv
    exact call_int1 pins s σ H _ us Q I r (.inl ⟨_, rfl, k _ F H (Ext.refl inn) (Rep.int _)⟩)
  · obtain ⟨v, rfl, h⟩ := rs.one
    cases h.bool_inv
    exact call_int1 pins s σ H _ us Q I r (.inr ⟨_, rfl, k _ F H (Ext.refl inn) (Rep.int _)⟩)
  · obtain ⟨v, rfl, h⟩ := rs.one
    obtain ⟨rfl, _⟩ := h.str_inv
    exact call_int_str pins s σ H _ us Q I r ⟨a, n, rfl, hn, hl, k _ F H (Ext.refl inn) (Rep.int _)⟩
theorem minmax_inv {b : Bt} (hb : b = .min ∨ b = .max) {ds : List D} {d : D} (e : btD b ds = some d) : (∃ i j, ds = [.int i, .int j]) ∨ ∃ xs ns, ds = [.list xs] ∧ intsD xs = some ns := by
  cases ds with
  | nil => rcases hb with rfl | rfl <;> cases e
  | cons x r =>
    cases r with
    | nil =>
      cases x with
      | list x =>
        refine .inr ?_
        cases h : intsD x with
        | none => rcases hb with rfl | rfl <;> (have e : (intsD x).bind _ = some d := e; rw [h] at e; cases e)
        | some ns => exact ⟨x, ns, rfl, h⟩
      | _ => rcases hb with rfl | rfl <;> cases e
    | cons y r =>
      cases r with
      | nil =>
        cases x with
        | int i =>
          cases y with
          | int j => exact .inl ⟨i, j, rfl⟩
          | _ => rcases hb with rfl | rfl <;> cases e
        | _ => rcases hb with rfl | rfl <;> cases y <;> cases e
      | cons _ _ => rcases hb with rfl | rfl <;> cases x <;> cases y <;> cases e
theorem maxI_spec : ∀ {ns : List Int} {m : Int}, maxI ns = some m → m ∈ ns ∧ ∀ y ∈ ns, y ≤ m
  | [], _, h => by cases h
  | [x], m, h => by cases h; simp
  | x :: y :: r, m, h => by
    obtain ⟨m', h1, rfl⟩ := Option.map_eq_some_iff.mp (show (maxI (y :: r)).map _ = some m from h)
    obtain ⟨a, b⟩ := maxI_spec h1
    split
    · rename_i hx
      exact ⟨List.mem_cons_of_mem _ a, fun z hz => by
        rcases List.mem_cons.mp hz with rfl | hz
        · omega
        · exact b z hz⟩
    · rename_i hx
      exact ⟨by simp, fun z hz => by
        rcases List.mem_cons.mp hz with rfl | hz
        · omega
        · have := b z hz; omega⟩
theorem minI_spec : ∀ {ns : List Int} {m : Int}, minI ns = some m → m ∈ ns ∧ ∀ y ∈ ns, m ≤ y
  | [], _, h => by cases h
  | [x], m, h => by cases h; simp
  | x :: y :: r, m, h => by
    obtain ⟨m', h1, rfl⟩ := Option.map_eq_some_iff.mp (show (minI (y :: r)).map _ = some m from h)
    obtain ⟨a, b⟩ := minI_spec h1
    split
    · rename_i hx
      exact ⟨List.mem_cons_of_mem _ a, fun z hz => by
        rcases List.mem_cons.mp hz with rfl | hz
        · omega
        · exact b z hz⟩
    · rename_i hx
      exact ⟨by simp, fun z hz => by
        rcases List.mem_cons.mp hz with rfl | hz
        · omega
        · have := b z hz; omega⟩
theorem bt_max (hc : X.calm = true) : CallR X (.builtin "max") (rC X.K .max false) := by
  intro pins s σ H xs us Q I r h
  obtain ⟨F, ds, d, inn, rs, e, k⟩ := h
  rcases minmax_inv (.inr rfl) e with ⟨i, j, rfl⟩ | ⟨x, ns, rfl, hn⟩
  · obtain ⟨v, w, rfl, h1, h2⟩ := rs.two
    cases h1.int_inv; cases h2.int_inv
    cases (Option.some.inj e)
    exact call_max2 hc pins s σ H _ us Q I r ⟨_, _, rfl, k _ F H (Ext.refl inn) (Rep.int _)⟩
  · obtain ⟨v, rfl, p, vs, rfl, hp, hr⟩ := rs.one
    have e : (intsD x).bind (fun ns => (maxI ns).map PyData.int) = some d := e
    rw [hn] at e
    obtain ⟨m, hm, rfl⟩ := Option.map_eq_some_iff.mp (show (maxI ns).map PyData.int = some d from e)
    rw [hr.ints hn] at hp
    obtain ⟨h1, h2⟩ := maxI_spec hm
    refine cr_max hc pins s σ H _ us Q I r ⟨p, ns, rfl, .inl hp, List.length_pos_of_mem h1, fun m' h3 h4 => ?_⟩
    have e2 : m' = m := by have a := h2 m' h3; have b := h4 m h1; omega
    rw [e2]
    exact k _ F H (Ext.refl inn) (Rep.int _)
theorem bt_min (hc : X.calm = true) : CallR X (.builtin "min") (rC X.K .min false) := by
  intro pins s σ H xs us Q I r h
  obtain ⟨F, ds, d, inn, rs, e, k⟩ := h
  rcases minmax_inv (.inl rfl) e with ⟨i, j, rfl⟩ | ⟨x, ns, rfl, hn⟩
  · obtain ⟨v, w, rfl, h1, h2⟩ := rs.two
    cases h1.int_inv; cases h2.int_inv
    cases (Option.some.inj e)
    exact call_min2 hc pins s σ H _ us Q I r ⟨_, _, rfl, k _ F H (Ext.refl inn) (Rep.int _)⟩
  · obtain ⟨v, rfl, p, vs, rfl, hp, hr⟩ := rs.one
    have e : (intsD x).bind (fun ns => (minI ns).map PyData.int) = some d := e
    rw [hn] at e
    obtain ⟨m, hm, rfl⟩ := Option.map_eq_some_iff.mp (show (minI ns).map PyData.int = some d from e)
    rw [hr.ints hn] at hp
    obtain ⟨h1, h2⟩ := minI_spec hm
    refine cr_min hc pins s σ H _ us Q I r ⟨p, ns, rfl, .inl hp, List.length_pos_of_mem h1, fun m' h3 h4 => ?_⟩
    have e2 : m' = m := by have a := h2 m' h3; have b := h4 m h1; omega
    rw [e2]
    exact k _ F H (Ext.refl inn) (Rep.int _)

/-! ### texts glued -/
theorem str_app_cps (a b : Str) : (a ++ b).cps = a.cps ++ b.cps := rfl
theorem glued_eq (a : Str) (l : List Str) : Txt.join a l = joinS a l := by
  have go : ∀ (r : List Str) (x : Str), (⟨r.foldl (fun acc p => acc ++ a.cps ++ p.cps) x.cps⟩ : Str) = r.foldl (fun acc p => acc ++ a ++ p) x := by
    intro r
    induction r with
    | nil => intro x; rfl
    | cons y t ih => intro x; rw [List.foldl_cons, List.foldl_cons]; exact ih (x ++ a ++ y)
  cases l with
  | nil => rfl
  | cons x r => exact go r x
theorem joinS_len (a : Str) (l : List Str) : (joinS a l).length ≤ (l.map (·.length)).sum + l.length * a.length := by
  have app : ∀ x y : Str, (x ++ y).length = x.length + y.length := fun x y => by show (x.cps ++ y.cps).size = _; rw [Array.size_append]; rfl
  have go : ∀ (r : List Str) (x : Str), (r.foldl (fun acc p => acc ++ a ++ p) x).length = x.length + (r.map (·.length)).sum + r.length * a.length := by
    intro r
    induction r with
    | nil => intro x; simp
    | cons y t ih =>
      intro x
      rw [List.foldl_cons, ih, app, app, List.map_cons, List.sum_cons, List.length_cons, Nat.succ_mul]
      omega
  cases l with
  | nil => exact Nat.zero_le _
  | cons x r =>
    have h : (joinS a (x :: r)).length = _ := go r x
    rw [h, List.map_cons, List.sum_cons, List.length_cons, Nat.succ_mul]
    omega
theorem joinS_ok {a : Str} (ha : SOk a) {l : List Str} (hl : ∀ x ∈ l, SOk x) (h : (l.map (·.length)).sum + l.length * a.length ≤ sizeLine) : SOk (joinS a l) := by
  refine ⟨Nat.le_trans (joinS_len a l) h, ?_⟩
  have go : ∀ (r : List Str) (x : Str), (∀ y ∈ r, SOk y) → (∀ c ∈ x.cps.toList, c < 0x110000) → ∀ c ∈ (r.foldl (fun acc p => acc ++ a ++ p) x).cps.toList, c < 0x110000 := by
    intro r
    induction r with
    | nil => intro x _ hx; exact hx
    | cons y t ih =>
      intro x hr hx
      refine ih _ (fun z hz => hr z (List.mem_cons_of_mem _ hz)) fun c hc => ?_
      rw [str_app_cps, str_app_cps, Array.toList_append, Array.toList_append, List.mem_append, List.mem_append] at hc
      rcases hc with (hc | hc) | hc
      · exact hx c hc
      · exact strOk_iff.mp ha.2 c hc
      · exact strOk_iff.mp (hr y (by simp)).2 c hc
  cases l with
  | nil => exact strOk_iff.mpr fun c hc => by cases hc
  | cons x r => exact strOk_iff.mpr (go r x (fun y hy => hl y (List.mem_cons_of_mem _ hy)) (strOk_iff.mp (hl x (by simp)).2))

/-! ### isinstance -/
def tyName : D → String
  | .none => "NoneType"
  | .bool _ => "bool"
  | .int _ => "int"
  | .str _ => "str"
  | .list _ => "list"
  | .tuple _ => "tuple"
  | .dict _ => "dict"
def Ty.name : Ty → String
  | .int => "int"
  | .str => "str"
  | .bool => "bool"
  | .tuple => "tuple"
  | .list => "list"
theorem RepB.tyx {K : PySem.W.Frag} {F H : Hp} (s : Sub F H) {v : V} {d : D} (r : RepB K F H v d) : TyX K H v (.type (tyName d)) := by
  cases d with
  | none => cases r.non_inv; exact .base .non
  | bool b => cases r.bool_inv; exact .base (.bl b)
  | int i => cases r.int_inv; exact .base (.int i)
  | str x => obtain ⟨rfl, _⟩ := r.str_inv; exact .base (.str x)
  | tuple ds =>
    obtain ⟨p, vs, rfl, hp, _⟩ := r.tup_inv
    rcases s.sqT hp.sqT with (h | ⟨o, h⟩) | ⟨o, its, n, h, c, _⟩
    · exact .base (.tup h)
    · exact .fTuple h
    · exact .kTuple h c
  | list ds =>
    obtain ⟨p, vs, rfl, hp, _⟩ := r
    rcases hp with h | ⟨o, h⟩
    · exact .base (.lst h)
    · exact .base (.frz h)
  | dict ds =>
    obtain ⟨p, vs, rfl, hp, _⟩ := r
    rcases hp with h | ⟨o, h⟩
    · exact .base (.dK h)
    · exact .fDict h
theorem kit_tab (K : PySem.W.Frag) (d : D) (t : Ty) : PySem.W.kitOne K (.type (tyName d)) (.type t.name) = some (isTy t d) := by
  refine kit_ty ?_
  cases d <;> cases t <;> simp only [tyName, Ty.name, isTy] <;> decide +kernel
theorem kit_any (K : PySem.W.Frag) (d : D) : ∀ ts : List Ty, PySem.W.kitAny K (.type (tyName d)) (ts.map fun t => .type t.name) = some (ts.any fun t => isTy t d)
  | [] => rfl
  | t :: r => by
    rw [List.map_cons, List.any_cons]
    refine kitAny_cons (kit_tab K d t) (fun h => ?_) fun h => ?_
    · rw [h, Bool.false_or]; exact kit_any K d r
    · rw [h, Bool.true_or]
/-! ### truth -/
theorem RepB.tru {K : PySem.W.Frag} {F H : Hp} (s : Sub F H) {v : V} {d : D} (r : RepB K F H v d) (hl : ∀ ds, d = .dict ds → ∃ p kvs, v = .ref p ∧ H p = some (.dK kvs) ∧ kvs.length = ds.length) : TruV K v H (truth d) := by
  cases d with
  | none => cases r.non_inv; rfl
  | bool b => cases r.bool_inv; rfl
  | int i => cases r.int_inv; rfl
  | str x => obtain ⟨rfl, h⟩ := r.str_inv; exact ⟨h.1, rfl⟩
  | tuple ds =>
    obtain ⟨p, vs, rfl, hp, hr⟩ := r.tup_inv
    exact .inr (.inl ⟨vs, s.sqT hp.sqT, by cases hr <;> rfl⟩)
  | list ds =>
    obtain ⟨p, vs, rfl, hp, hr⟩ := r
    exact .inl ⟨vs, .inl hp, by cases hr <;> rfl⟩
  | dict ds =>
    obtain ⟨p, kvs, rfl, h, hlen⟩ := hl ds rfl
    refine .inr (.inr ⟨kvs, h, ?_⟩)
    show (!ds.isEmpty) = !kvs.isEmpty
    cases ds <;> cases kvs <;> first | rfl | (simp at hlen)
end
end G7

namespace G7
open L2 PyProof.Rows PySem.Spec PySem
section
variable {K : PySem.W.Frag} {F : Hp}
theorem RepK.put {kvs : List (Key × V)} {ds : List (D × D)} (r : RepK K F kvs ds) {k : Key} {v : V} {d : D} (hk : KOk k) (hv : Rep K F v d) : RepK K F (putK kvs k v) (putD ds k d) := by
  have hkd : ∀ k : Key, dKey (keyD k) = some k := fun k => by cases k <;> rfl
  have any : ∀ (kvs : List (Key × V)) (ds : List (D × D)), RepK K F kvs ds → (kvs.any fun kv => decide (kv.1 = k)) = (ds.any fun kv => decide (dKey kv.1 = some k)) := by
    intro kvs
    induction kvs with
    | nil => intro ds r; cases r; rfl
    | cons p ps ih =>
      intro ds r
      cases r with
      | @cons k' v' _ d' ds' hk' hv' r' =>
        rw [List.any_cons, List.any_cons, ih _ r']
        congr 1
        show decide (k' = k) = decide (dKey (keyD k') = some k)
        rw [hkd]
        simp
  have mp : ∀ (kvs : List (Key × V)) (ds : List (D × D)), RepK K F kvs ds → RepK K F (kvs.map fun kv => if kv.1 = k then (kv.1, v) else kv) (ds.map fun kv => if dKey kv.1 = some k then (kv.1, d) else kv) := by
    intro kvs
    induction kvs with
    | nil => intro ds r; cases r; exact .nil
    | cons p ps ih =>
      intro ds r
      cases r with
      | @cons k' v' _ d' ds' hk' hv' r' =>
        rw [List.map_cons, List.map_cons]
        by_cases e : k' = k
        · rw [if_pos e, if_pos (by show dKey (keyD k') = some k; rw [hkd, e])]
          exact .cons hk' hv (ih _ r')
        · rw [if_neg e, if_neg (by show ¬ dKey (keyD k') = some k; rw [hkd]; intro z; exact e (Option.some.inj z))]
          exact .cons hk' hv' (ih _ r')
  have app : ∀ (kvs : List (Key × V)) (ds : List (D × D)), RepK K F kvs ds → RepK K F (kvs ++ [(k, v)]) (ds ++ [(keyD k, d)]) := by
    intro kvs
    induction kvs with
    | nil => intro ds r; cases r; exact .cons hk hv .nil
    | cons p ps ih =>
      intro ds r
      cases r with
      | cons hk' hv' r' => exact .cons hk' hv' (ih _ r')
  unfold putK putD
  rw [any _ _ r]
  split
  · exact mp _ _ r
  · exact app _ _ r
theorem RepK.merge : ∀ {more : List (Key × V)} {ms : List (D × D)} {kvs : List (Key × V)} {ds : List (D × D)}, RepK K F more ms → RepK K F kvs ds → RepK K F (mergeK kvs more) (mergeD ds ms)
  | _, _, _, _, .nil, r => r
  | _, _, kvs, ds, .cons (k := k) (v := v) (vs := vs) (d := d) (ds := ms) hk hv rm, r => by
    have h := RepK.merge rm (r.put hk hv)
    have e1 : mergeK kvs ((k, v) :: vs) = mergeK (putK kvs k v) vs := rfl
    have e2 : mergeD ds ((keyD k, d) :: ms) = mergeD (putD ds k d) ms := by
      show List.foldl _ (match dKey (keyD k) with | some k => putD ds k d | none => ds) ms = _
      rw [dKey_keyD]
      rfl
    rw [e1, e2]
    exact h
/-- the pairs of a list of pairs -/
theorem Reps.pairs : ∀ {vs : List V} {ds : List D} {ps : List (D × D)}, Reps K F vs ds → pairsD ds = some ps → ∃ (as : List Addr) (kvs : List (Key × V)), vs = as.map V.ref ∧ Paired (fun p kv => SqT K F p [kV kv.1, kv.2]) as kvs ∧ RepK K F kvs ps
  | _, _, _, .nil, e => by cases e; exact ⟨[], [], rfl, .nil, .nil⟩
  | _, _, ps, .cons (d := d) (ds := ds) h r, e => by
    cases h with
    | @tup a us es hp rs =>
      rcases rs with _ | ⟨r1, _ | ⟨r2, _ | ⟨_, _⟩⟩⟩
      · cases e
      · cases e
      · rename_i x d1 y d2
        have e : (match dKey d1 with
          | some _ => (pairsD ds).map ((d1, d2) :: ·)
          | none => none) = some ps := e
        cases hk : dKey d1 with
        | none => rw [hk] at e; cases e
        | some k =>
          rw [hk] at e
          obtain ⟨ps', e1, rfl⟩ := Option.map_eq_some_iff.mp e
          obtain ⟨as, kvs, rfl, hp2, rk⟩ := Reps.pairs r e1
          obtain rfl := dKey_some hk
          have hx : x = kV k ∧ KOk k := by
            cases k with
            | inl i => cases r1; exact ⟨rfl, trivial⟩
            | inr z => cases r1 with
              | str ho => exact ⟨rfl, ho⟩
          obtain ⟨rfl, ho⟩ := hx
          exact ⟨a :: as, (k, y) :: kvs, rfl, .cons hp.sqT hp2, .cons ho r2 rk⟩
      · cases e
    | _ => cases e
theorem Paired.up {H : Hp} (s : Sub F H) : ∀ {as : List Addr} {kvs : List (Key × V)}, Paired (fun p (kv : Key × V) => SqT K F p [kV kv.1, kv.2]) as kvs → Paired (fun p (kv : Key × V) => SqT K H p [kV kv.1, kv.2]) as kvs
  | _, _, .nil => .nil
  | _, _, .cons h r => .cons (s.sqT h) (Paired.up s r)
end
section
variable {prog : Program} {w : World} {A : Around} {E : Value → Shared → Prop}
/-- the walk over a tuple's pairs -/
theorem upd_walk {R : Result → Shared → Prop} {S I l : Addr} {items : Array Value} {res : Value} (hh : A.handled = none) (hlI : l ≠ I) (hSI : S ≠ I) (hSl : S ≠ l) :
    ∀ (rest : List (Key × Value)) (i : Nat) (acc : List (Key × Value)) (ix : Int) (t : Tok) (s : Shared), items.size = i + rest.length → acc.length + rest.length ≤ sizeLine →
      (∀ (j : Nat) (q : Key × Value), rest[j]? = some q → ∃ (b : Addr) (u : Value), items[i + j]? = some (.ref b) ∧ b ≠ S ∧ b ≠ I ∧ IsTup s.heap b #[u, q.2] ∧ keyIs q.1 u = true) →
      s.heap.IsTupleIter I l i → s.heap.IsTuple l items → s.heap.DictOf (mixKind prog w) S acc →
      (∀ h' tk, h'.DictOf (mixKind prog w) S (merged acc rest) → (∀ b o, b ≠ S → b ≠ I → s.heap.get? b = some o → h'.get? b = some o) → R (.ok (.ret res)) { s with heap := h', toks := tk }) →
      codeAny (model prog w) A (.builtin "dict.update.loop" ⟨[.ref S, .ref I, .int ix t, res], []⟩) R s
  | [], i, acc, ix, t, s, hsz, hln, ht, hit, hl, hm, hR => by
    refine codeAny_builtin ud_entry ?_
    rw [Around.under_plainId ud_plain _]
    show wpAny _ A.in1 (pyNext (.ref I) >>= _) _ _ s
    refine wpAny_bind (wpAny_pyNext_tuple_end (A := A.in1) hh hit hl (by first | exact Array.getElem?_eq_none (Nat.le_of_eq hsz) | (simp at hsz; simp; omega)) fun h' he => ?_)
    show wpAny _ A.in1 (Builtin.Dict.addKeywords S [] >>= _) _ _ _
    refine wpAny_bind (wpAny_pure (wpAny_pure ?_))
    exact hR h' s.toks (hm.extBut he hSI) fun b o _ hb e => he b o hb e
  | q :: rest, i, acc, ix, t, s, hsz, hln, ht, hit, hl, hm, hR => by
    obtain ⟨b, u, hb, hbS, hbI, htup, hk⟩ := ht 0 q rfl
    rw [List.length_cons] at hsz hln
    refine codeAny_builtin ud_entry ?_
    rw [Around.under_plainId ud_plain _]
    show wpAny _ A.in1 (pyNext (.ref I) >>= _) _ _ s
    refine wpAny_bind (wpAny_pyNext_tuple_item (x := .ref b) hit hl (by simpa using hb) fun h1 hit1 hs1 => ?_)
    have ht1 : IsTup h1 b #[u, q.2] := htup.extBut hs1.extBut hbI
    have hl1 : h1.IsTuple l items := IsTup.extBut hl hs1.extBut hlI
    have hm1 : h1.DictOf (mixKind prog w) S acc := hm.extBut hs1.extBut hSI
    obtain ⟨o, ho, hc, n, hd⟩ := id ht1
    show wpAny _ A.in1 (holding [Value.ref b] _ >>= _) _ _ _
    refine wpAny_bind (wpAny_holding ?_)
    refine wpAny_bind (wpAny_tryCatch ?_)
    unfold Builtin.Dict.pairItems
    refine wpAny_bind (wpAny_typeOf (T := "tuple") ⟨o, ho, hc⟩ ?_)
    rw [if_pos (by first | decide | rfl | simp)]
    refine wpAny_bind (wpAny_seqItems ho hd (wpAny_pure ?_))
    show wpAny _ A.in1 (holding [u, q.2] (dictSet S u q.2)) _ _ _
    refine wpAny_holding (wpAny_dictSet_pairs (knd := mixKind prog w) (k := q.1) hk hm1 (fun h2 hm2 hs2 => ?_) (by omega))
    refine wpAny_pure ⟨plainId_quiet ud_plain _, upd_walk (items := items) hh hlI hSI hSl rest (i + 1) (stored acc q.1 q.2) (ix + 1) 0 _ (show items.size = i + 1 + rest.length by omega) ?_ (fun j q' e => ?_) ?_ ?_ hm2 fun h' tk hd' k => ?_⟩
    · have z := stored_length_le acc q.1 q.2
      omega
    · obtain ⟨b', u', hb', hbS', hbI', htup', hk'⟩ := ht (j + 1) q' (by simpa using e)
      refine ⟨b', u', ?_, hbS', hbI', (htup'.extBut hs1.extBut hbI').extBut hs2.extBut hbS', hk'⟩
      rw [show i + 1 + j = i + (j + 1) by omega]
      exact hb'
    · exact hit1.at fun o' e => hs2.extBut I o' (Ne.symm hSI) e
    · exact IsTup.extBut hl1 hs2.extBut (Ne.symm hSl)
    · exact hR h' tk hd' fun c oc h3 h4 e => k c oc h3 h4 (hs2.extBut c oc h3 (hs1.extBut c oc h4 e))
theorem call_dict_tuple {s : Shared} {l : Addr} {ol : Obj} {items : Array Value} {n : Nat} {prs : List (Key × Value)} {Q : Value → Shared → Prop} (hh : A.handled = none) (hl : s.heap.get? l = some ol) (hc : ol.cls = .type "tuple") (hd : ol.dict = none)
    (hdat : ol.data = .seq items n) (hsz : items.size = prs.length) (hln : prs.length ≤ sizeLine)
    (ht : ∀ (j : Nat) (q : Key × Value), prs[j]? = some q → ∃ (b : Addr) (u : Value), items[j]? = some (.ref b) ∧ IsTup s.heap b #[u, q.2] ∧ keyIs q.1 u = true)
    (h : ∀ h' tk, h'.DictOf (mixKind prog w) s.heap.objs.size (merged [] prs) → (∀ b o, s.heap.get? b = some o → h'.get? b = some o) → Q (.ref s.heap.objs.size) { s with heap := h', toks := tk }) :
    wpAny (model prog w) A (call (.type "dict") [.ref l]) Q E s := by
  refine callType_codes (Q₁ := fun obj s₁ => obj = .ref s.heap.objs.size ∧ s₁ = { s with heap := s.heap.push { cls := .type "dict", data := .dict #[] } }) PySem.F.kt_called_dict (PySem.F.kt_typeCall_dict_1 _) PySem.F.entry_dict_init (kt_code_dict_new _ ⟨rfl, rfl⟩) ?_
  rintro obj s₁ ⟨rfl, rfl⟩
  have hnew : (s.heap.push { cls := .type "dict", data := .dict #[] }).DictOf (mixKind prog w) s.heap.objs.size [] := Heap.DictOf.new s.heap
  have k0 : ∀ b o, s.heap.get? b = some o → (s.heap.push { cls := .type "dict", data := .dict #[] }).get? b = some o := fun b o e => Heap.get?_push_of_some _ e
  refine ⟨hnew.typeIs, PySem.F.args_dict_init_2 _ _, ?_⟩
  unfold Builtin.«dict.__init__»
  refine wpAny_bind ?_
  unfold Builtin.Dict.selfAndRest
  refine wpAny_bind (wpAny_notOrdered_dict hnew.typeIs ?_)
  show wpAny _ _ (pure (s.heap.objs.size, [Value.ref l])) _ _ _
  refine wpAny_pure ?_
  show wpAny _ _ (Builtin.Dict.updateFrom "dict.__init__" s.heap.objs.size (.ref l) [] .none) _ _ _
  unfold Builtin.Dict.updateFrom
  refine wpAny_bind (wpAny_typeOf (T := "tuple") ⟨ol, k0 _ _ hl, hc⟩ ?_)
  rw [if_pos (by first | decide | rfl | simp)]
  refine wpAny_bind (getAttrOr_miss_tuple (k0 _ _ hl) hc hdat hd tuple_no_keys (by decide +kernel) hh fun h1 tk1 hk1 => ?_)
  rw [if_pos (show (none : Option Value).isNone = true from rfl)]
  refine wpAny_bind (wpAny_rule ?_)
  have hl1 : h1.IsTuple l items := ⟨ol, hk1 _ _ (k0 _ _ hl), hc, n, hdat⟩
  have hS1 : s.heap.objs.size < h1.objs.size := by
    have e : (s.heap.push { cls := .type "dict", data := .dict #[] }).get? s.heap.objs.size = some { cls := .type "dict", data := .dict #[] } := Heap.get?_push_size _ rfl
    exact Heap.lt_size (hk1 _ _ e)
  refine wpAny_bind (wpAny_pyIter_tuple hl1 ?_)
  have k2 : ∀ b o, h1.get? b = some o → (h1.push { cls := .type "tuple_iterator", data := .fields #[.ref l, .int 0 0] }).get? b = some o := fun b o e => Heap.get?_push_of_some _ e
  have hlt : l < s.heap.objs.size := Heap.lt_size hl
  have key := upd_walk (prog := prog) (w := w) (A := A.in1) (R := wants (fun r s₂ => r = .none ∧ Q (.ref s.heap.objs.size) s₂) E) (S := s.heap.objs.size) (I := h1.objs.size) (l := l) (items := items) (res := Value.none) hh
    (Nat.ne_of_lt (Nat.lt_trans hlt hS1)) (Nat.ne_of_lt hS1) (Nat.ne_of_gt hlt) prs 0 [] 0 0
    { s with heap := h1.push { cls := .type "tuple_iterator", data := .fields #[.ref l, .int 0 0] }, toks := tk1 } (by rw [hsz, Nat.zero_add]) (by rw [List.length_nil, Nat.zero_add]; exact hln)
    (fun j q e => by
      obtain ⟨b, u, e1, e2, e3⟩ := ht j q e
      have hb : b < s.heap.objs.size := e2.lt
      exact ⟨b, u, by rw [Nat.zero_add]; exact e1, Nat.ne_of_lt hb, Nat.ne_of_lt (Nat.lt_trans hb hS1), e2.keeps fun c o z => k2 _ _ (hk1 _ _ (k0 _ _ z)), e3⟩)
    ⟨_, Heap.get?_push_size _ rfl, rfl, rfl⟩ (hl1.at fun o e => k2 _ _ e) ((hnew.at fun o e => hk1 _ _ e).at fun o e => k2 _ _ e)
    (fun h' tk hd' k => ⟨rfl, h h' tk hd' fun b o e => k b o (Nat.ne_of_lt (Heap.lt_size e)) (Nat.ne_of_lt (Nat.lt_trans (Heap.lt_size e) hS1)) (k2 _ _ (hk1 _ _ (k0 _ _ e)))⟩)
  first
    | exact wpAny_pure ⟨plainId_quiet ud_plain _, key⟩
    | exact wpAny_bind (wpAny_pure (wpAny_pure ⟨plainId_quiet ud_plain _, key⟩))
end
section
variable {X : Cx}
/-- a plain tuple's object in the heap -/
theorem Inv.tupP {pins : List (Addr × Obj)} {σ : St} {H : Hp} {s : Shared} {a : Addr} {xs : List V} (I : Inv X pins σ H s) (h : TupP X.K H a xs) : ∃ (its : List Value) (o : Obj) (n : Nat), Vals xs its ∧ s.heap.get? a = some o ∧ o.cls = .type "tuple" ∧ o.dict = none ∧ o.data = .seq its.toArray n ∧ xs.length ≤ sizeLine := by
  rcases h with ⟨o, hd, h⟩ | ⟨o, its, n, hk, hc, hd, hs, hz, r⟩
  · obtain ⟨ho, z, its, r, o', ho', hc, n, hs⟩ := I.hok a _ h
    rw [ho] at ho'
    cases ho'
    exact ⟨its, o, n, r, ho, hc, hd, hs, z⟩
  · refine ⟨its.toList, o, n, r, I.kIn a o hk, hc, hd, by simpa using hs, ?_⟩
    have e := r.length
    simp only [Array.length_toList] at e
    omega
theorem call_dictT (hcalm : X.calm = true) : CallR X (.type "dict") (fun xs H Q => ∃ (a : Addr) (ps : List Addr) (kvs : List (Key × V)), xs = [.ref a] ∧ TupP X.K H a (ps.map V.ref) ∧ Paired (fun p kv => SqT X.K H p [kV kv.1, kv.2]) ps kvs ∧
    ∀ p, H p = none → Q (.ref p) (upd H p (.dK (mergeK [] kvs)))) := by
  intro pins s σ H xs us Q I r q
  obtain ⟨a, ps, kvs, ex, hq, hp, q⟩ := q
  subst ex
  obtain ⟨u, eu, rx⟩ := vals1 r
  subst eu
  cases rx
  obtain ⟨its, o, n, rv, ho, hc, hd, hdat, hz⟩ := Inv.tupP I hq
  have ei := refs_at rv
  subst ei
  rw [List.length_map] at hz
  obtain ⟨prs, rel, hl, hpr⟩ := pairs_of I hp
  refine call_dict_tuple (prs := prs) (I.ok.hd hcalm) ho hc hd hdat (by simp [hl]) (by rw [hl]; exact hz) (fun j q' e => ?_) fun h' tk hd' k => ?_
  · obtain ⟨b, u, e1, e2, e3⟩ := hpr j q' e
    exact ⟨b, u, by simp [e1], e2, e3⟩
  · have hm : (s.heap.objs.size == sysModules) = false := beq_eq_false_iff_ne.mpr (Nat.ne_of_gt I.big)
    have hlen : (mergeK [] kvs).length ≤ sizeLine := by
      refine Nat.le_trans (length_mergeK kvs []) ?_
      rw [List.length_nil, Nat.zero_add, rel.length, hl]
      exact hz
    exact ⟨.ref s.heap.objs.size, upd H s.heap.objs.size (.dK (mergeK [] kvs)), I.laid (t' := tk) k (Nat.le_refl _) (show ObjOk X.prog X.w _ _ _ (.dK (mergeK [] kvs)) from ⟨hlen, hm, merged [] prs, KV.merge rel .nil, hd'⟩), rfl, q _ (I.hok.fresh (Nat.le_refl _))⟩
theorem dict_inv {ds : List D} {d : D} (e : btD .dict ds = some d) : ∃ xs ps, (ds = [.list xs] ∨ ds = [.tuple xs]) ∧ pairsD xs = some ps ∧ d = .dict (mergeD [] ps) := by
  cases ds with
  | nil => cases e
  | cons a r =>
    cases r with
    | nil =>
      cases a with
      | list x =>
        obtain ⟨ps, h1, h2⟩ := Option.map_eq_some_iff.mp (show (pairsD x).map (fun ps => PyData.dict (mergeD [] ps)) = some d from e)
        exact ⟨x, ps, .inl rfl, h1, h2.symm⟩
      | tuple x =>
        obtain ⟨ps, h1, h2⟩ := Option.map_eq_some_iff.mp (show (pairsD x).map (fun ps => PyData.dict (mergeD [] ps)) = some d from e)
        exact ⟨x, ps, .inr rfl, h1, h2.symm⟩
      | _ => cases e
    | cons _ _ => cases a <;> cases e
theorem bt_dict (hc : X.calm = true) : CallR X (.type "dict") (rC X.K .dict true) := by
  intro pins s σ H xs us Q I r h
  obtain ⟨F, ds, d, inn, rs, e, k⟩ := h
  obtain ⟨x, ps, hx, e1, rfl⟩ := dict_inv e
  have fin : ∀ (kvs : List (Key × V)), RepK X.K F kvs ps → ∀ p, H p = none → Q (.ref p) (upd H p (.dK (mergeK [] kvs))) := fun kvs rk p hp =>
    k _ F _ (Ext.laid inn hp) ⟨p, _, rfl, hp, inn.free hp, upd_same, RepK.merge rk .nil⟩
  rcases hx with rfl | rfl
  · obtain ⟨v, rfl, p, vs, rfl, hp, hr⟩ := rs.one
    obtain ⟨as, kvs, rfl, hpp, rk⟩ := hr.pairs e1
    exact call_dictP hc pins s σ H _ us Q I r ⟨p, as, kvs, rfl, .inl hp, Paired.up inn.sub hpp, fin kvs rk⟩
  · obtain ⟨v, rfl, h⟩ := rs.one
    obtain ⟨p, vs, rfl, hp, hr⟩ := h.tup_inv
    obtain ⟨as, kvs, rfl, hpp, rk⟩ := hr.pairs e1
    exact call_dictT hc pins s σ H _ us Q I r ⟨p, as, kvs, rfl, inn.sub.tupP hp, Paired.up inn.sub hpp, fin kvs rk⟩
/-- str(int) -/
theorem str_inv {ds : List D} {d : D} (e : btD .str ds = some d) : ∃ i, ds = [.int i] ∧ i.natAbs.log2 < 1920 ∧ d = .str (toString i) := by
  cases ds with
  | nil => cases e
  | cons a r =>
    cases r with
    | nil =>
      cases a with
      | int i =>
        have e : (if i.natAbs.log2 < 1920 then some (PyData.str (toString i)) else none) = some d := e
        split at e
        · rename_i h
          exact ⟨i, rfl, h, (Option.some.inj e).symm⟩
        · cases e
      | _ => cases e
    | cons _ _ => cases a <;> cases e
theorem sok_ofString {t : String} (h : t.length ≤ 10000) : SOk (Str.ofString t) := by
  rw [Str.ofString_eq_toList]
  refine ⟨?_, ?_⟩
  · show (t.toList.map Char.toNat).toArray.size ≤ _
    rw [List.size_toArray, List.length_map, String.length_toList]
    exact Nat.le_trans h (by decide)
  · unfold PySem.PyData.strOk
    rw [List.all_toArray, List.all_map, List.all_eq_true]
    intro c _
    have : c.toNat < 1114112 := by
      have := c.valid
      rcases this with h | h
      · exact Nat.lt_trans h (by decide)
      · exact h.2
    simpa using this
theorem repr_len {n : Nat} (h : n < 10 ^ 1920) : n.repr.length ≤ 1920 := by
  rw [Nat.repr_eq_ofList_toDigits, String.length_ofList]
  exact (Nat.length_toDigits_le_iff (by decide) (by decide)).mpr h
theorem nat_small {n : Nat} (h : n.log2 < 1920) : n < 10 ^ 1920 := by
  by_cases h0 : n = 0
  · rw [h0]; exact Nat.pow_pos (by decide)
  · exact Nat.lt_of_lt_of_le ((Nat.log2_lt h0).mp h) (Nat.pow_le_pow_left (by decide) _)
theorem sok_int {i : Int} (h : i.natAbs.log2 < 1920) : SOk (Str.ofString (toString i)) := by
  refine sok_ofString ?_
  show (Int.repr i).length ≤ 10000
  have hz := repr_len (nat_small h)
  cases i with
  | ofNat m => exact Nat.le_trans hz (by decide)
  | negSucc m =>
    show ("-" ++ (m.succ).repr).length ≤ 10000
    rw [String.length_append]
    have e : "-".length = 1 := by decide
    have hz : (m.succ).repr.length ≤ 1920 := hz
    omega
theorem bt_str : CallR X (.type "str") (rC X.K .str false) := by
  intro pins s σ H xs us Q I r h
  obtain ⟨F, ds, d, inn, rs, e, k⟩ := h
  obtain ⟨i, rfl, hi, rfl⟩ := str_inv e
  obtain ⟨v, rfl, h⟩ := rs.one
  cases h.int_inv
  exact call_str_int pins s σ H _ us Q I r ⟨i, rfl, hi, k _ F H (Ext.refl inn) (Rep.str (sok_int hi))⟩
end
end G7

namespace G7
open L2 PyProof.Rows PySem.Spec PySem

/-! ### the text and the small language agree -/
/-- how the text calls the defs and the module's constants -/
structure Nms where
  f : Nat → Str
  g : Nat → Str
  fs : List Nat
  gs : List Nat
  ts : List Nat
  lm : Bool
  x : Nat → Str
  xs : List Nat
  tr : Bool
def slotOk (N : List Str) (sc : Scope) (i : Nat) (x : Str) : Bool :=
  decide (N[i]? = some x) && (decide (sc.names.lookup x = some .local) || decide (sc.names.lookup x = some .cell) || decide (sc.names.lookup x = some .free)) && !(x == ("__debug__" : Str)) && !(x == ("__classdict__" : Str))
def globOk (sc : Scope) (x : Str) : Bool := decide (sc.names.lookup x = some .globalImplicit) && !(x == ("__debug__" : Str))
def opOk : Op2 → Operator → Bool
  | .add, .Add => true
  | .sub, .Sub => true
  | .mul, .Mult => true
  | .mod, .Mod => true
  | .fdiv, .FloorDiv => true
  | .pow, .Pow => true
  | _, _ => false
def cmOk (c : Cm) (o : CmpOp) : Bool := decide (cmOp c = o)
def plainR : Expr → Bool
  | .Set _ _ _ => false
  | .Starred _ _ => false
  | .IfExp _ _ _ _ => false
  | _ => true
def isIf : Expr → Bool
  | .IfExp _ _ _ _ => true
  | _ => false
def plainA (x : Expr) : Bool := plainR x || isIf x
def noSlice : Expr → Bool
  | .Slice _ _ _ _ => false
  | _ => true
def strSmall (x : Str) : Bool := decide (x.length ≤ 10000) && PySem.PyData.strOk x
def btName : Bt → Option (Str × Bool)
  | .len => some ("len", true)
  | .all => some ("all", true)
  | .any => some ("any", true)
  | .tuple => some ("tuple", false)
  | .list => some ("list", false)
  | .sorted => some ("sorted", true)
  | .int => some ("int", false)
  | .dict => some ("dict", false)
  | .str => some ("str", false)
  | .min => some ("min", true)
  | .max => some ("max", true)
  | _ => none
def tyOk (t : Ty) (sc : Scope) : Expr → Bool
  | .Name x _ => decide (x = (t.name : Str)) && globOk sc x
  | _ => false
def tysOk (sc : Scope) : List Ty → List Expr → Bool
  | [], [] => true
  | t :: ts, e :: es => tyOk t sc e && tysOk sc ts es
  | _, _ => false
/-- a slice's bound -/
def optOk (e : E) (o : Option Expr) (f : Expr → Bool) : Bool := match e, o with
  | .kN, none => true
  | .kN, some _ => false
  | _, none => false
  | _, some y => f y
def keyKw : List Keyword → Bool
  | [⟨some k, .Lambda params body scope _, _⟩] => decide (k = "key") && lamTB params body scope
  | _ => false
section
variable (nm : Nms) (N : List Str)
def chkTg (sc : Scope) (fnb : Str → Bool) : Tg → Expr → Bool
  | .nm i, .Name x _ => decide (N[i]? = some x) && (decide (sc.names.lookup x = some .local) || (decide (sc.names.lookup x = some .cell) && fnb x))
  | .tp ts, .Tuple es _ _ => chkTgs ts es
  | _, _ => false
where chkTgs : Tg → List Expr → Bool
  | .nil, [] => true
  | .cons t ts, e :: es => plainR e && chkTg sc fnb t e && chkTgs ts es
  | _, _ => false
def ownOf' (t : Tg) : List (Str × Nat) := t.slots.map fun i => ((N[i]?).getD "", i)
mutual
def chkE (sc : Scope) : E → Expr → Bool
  | .var i, .Name x _ => slotOk N sc i x
  | .glob g, .Name x _ => decide (x = nm.g g) && globOk sc x && nm.gs.contains g
  | .kI i, .Constant (.int j) _ _ => decide (i = j)
  | .kS a, .Constant (.str b) _ _ => decide (a = b) && strSmall a
  | .kB a, .Constant (.bool b) _ _ => decide (a = b)
  | .kN, .Constant .none _ _ => true
  | .tup es, .Tuple xs _ _ => decide (xs.length ≤ 1000) && chkA sc es xs
  | .lst es, .List xs _ => decide (xs.length ≤ 1000) && chkA sc es xs
  | .dnew, .Dict [] [] _ => true
  | .dct1 a b, .Dict [some k] [v] _ => plainR k && plainR v && chkE sc a k && chkE sc b v
  | .op o a b, .BinOp x p y _ => opOk o p && chkE sc a x && chkE sc b y
  | .neg a, .UnaryOp .USub x _ => chkE sc a x
  | .cmp o a b, .Compare x [p] [y] _ => cmOk o p && plainR y && chkE sc a x && chkE sc b y
  | .chain o1 o2 a b c, .Compare x [p, q] [y, z] _ => cmOk o1 p && cmOk o2 q && decide (p ≠ .In) && decide (p ≠ .NotIn) && decide (q ≠ .In) && decide (q ≠ .NotIn) && chkE sc a x && chkE sc b y && chkE sc c z
  | .and a b, .BoolOp .And (x :: y :: r) pos => plainR x && chkE sc a x && chkE sc b (.BoolOp .And (y :: r) pos)
  | .or a b, .BoolOp .Or (x :: y :: r) pos => plainR x && chkE sc a x && chkE sc b (.BoolOp .Or (y :: r) pos)
  | .one a, .BoolOp _ [x] _ => plainR x && chkE sc a x
  | .not a, .UnaryOp .Not x _ => plainR x && chkE sc a x
  | .ite c a b, .IfExp x y z _ => plainR x && chkE sc c x && chkE sc a y && chkE sc b z
  | .idx a i, .Subscript x y _ => noSlice y && chkE sc a x && chkE sc i y
  | .slc a lo hi, .Subscript x (.Slice l h none _) _ => chkE sc a x && optOk lo l (fun y => chkE sc lo y) && optOk hi h (fun y => chkE sc hi y)
  | .call f es, .Call (.Name x _) (y :: ys) [] _ => decide (x = nm.f f) && globOk sc x && nm.fs.contains f && chkA sc es (y :: ys)
  | .bt b es, .Call (.Name x _) (y :: ys) [] _ => (match btName b with
    | some (n, _) => decide (x = n) && globOk sc x && chkA sc es (y :: ys)
    | none => (match b, es, y, ys with
      | .sset, .cons e .nil, .Call (.Name z _) [u] [] _, [] => decide (x = "sorted") && globOk sc x && decide (z = "set") && globOk sc z && plainR u && chkE sc e u
      | _, _, _, _ => false))
  | .bt .join (.cons (.kS s) (.cons b .nil)), .Call (.Attribute (.Constant (.str t) _ _) m ap) [y] [] cp => decide (s = t) && strSmall s && decide (m = "join") && (ap.endLine == cp.line) && plainR y && chkE sc b y
  | .bt b es, .Call (.Name x _) (y :: ys) (k :: ks) _ => (match b, es with
    | .skey, .cons e .nil => nm.lm && decide (x = "sorted") && globOk sc x && keyKw (k :: ks) && ys.isEmpty && plainR y && chkE sc e y
    | _, _ => false)
  | .bt .index (.cons (.glob g) (.cons b .nil)), .Call (.Attribute (.Name x _) m ap) [y] [] cp => decide (x = nm.g g) && globOk sc x && nm.ts.contains g && decide (m = "index") && (ap.endLine == cp.line) && plainR y && chkE sc b y
  | .isi a [t], .Call (.Name x _) [y, z] [] _ => decide (x = "isinstance") && globOk sc x && plainR y && chkE sc a y && tyOk t sc z
  | .isi a ts, .Call (.Name x _) [y, .Tuple zs _ _] [] _ => decide (x = "isinstance") && globOk sc x && plainR y && chkE sc a y && tysOk sc ts zs && decide (zs.length ≤ 100)
  | .lc elt t it cs, .ListComp x [⟨tg, iter, ifs, 0⟩] scope _ => chkI sc tg it iter && plainR iter && blkC N sc scope (ownOf' N t) && chkTg N (relS scope sc) (fun x => scope.names.lookup x == some .cell) t tg && chkC (relS scope sc) cs ifs && plainA x && chkE (relS scope sc) elt x
  | _, _ => false
def chkA (sc : Scope) : E → List Expr → Bool
  | .nil, [] => true
  | .cons e es, x :: xs => plainA x && chkE sc e x && chkA sc es xs
  | _, _ => false
def chkC (sc : Scope) : E → List Expr → Bool
  | .nil, [] => true
  | .cons c .nil, [x] => plainR x && chkE sc c x
  | _, _ => false
def chkI (sc : Scope) (tg : Expr) : E → Expr → Bool
  | .rng1 a, .Call (.Name x _) [y] [] _ => decide (x = "range") && globOk sc x && plainR y && chkE sc a y
  | .rng2 a b, .Call (.Name x _) [y, z] [] _ => decide (x = "range") && globOk sc x && plainR y && plainR z && chkE sc a y && chkE sc b z
  | .enum a, .Call (.Name x _) [y] [] _ => decide (x = "enumerate") && globOk sc x && plainR y && chkE sc a y && (match tg with | .Tuple _ _ _ => true | _ => false)
  | .zip a b, .Call (.Name x _) [y, z] [] _ => decide (x = "zip") && globOk sc x && plainR y && plainR z && chkE sc a y && chkE sc b z && (match tg with | .Tuple _ _ _ => true | _ => false)
  | .one a, x => plainR x && chkE sc a x
  | .itd i, .Name x _ => slotOk N sc i x
  | _, _ => false
end
end
end G7

namespace G7
open L2 PyProof.Rows PySem.Spec PySem

/-! ### contracts -/
section
variable (K : PySem.W.Frag) (G : Nat → Option D) (fe : Nat → List D → Res D) (W : Str → St → Hp → Prop)
def tX (e : E) : TE := fun σ H Q => ∃ F ρ, Inn F H ∧ StOk K F H σ ρ ∧ After W (EscA σ ρ (esc e)) F H σ (evalE G fe e ρ) (fun d F' H' => ∀ v, RepX (fresh e) K H F' H' v d → Q v H')
def tE (e : E) : TE := fun σ H Q => ∃ F ρ, Inn F H ∧ StOk K F H σ ρ ∧ After W (EscA σ ρ (esc e)) F H σ (evalE G fe e ρ) (fun d F' H' => ∀ v, Rep K F' v d → Q v H')
def tB (e : E) : TE := fun σ H Q => ∃ F ρ, Inn F H ∧ StOk K F H σ ρ ∧ After W (EscA σ ρ (escB e)) F H σ (bor e ρ (evalE G fe e ρ)) (fun d F' H' => ∀ v, RepB K F' H' v d → Q v H')
def tT (e : E) : TT := fun σ H Q => ∃ F ρ, Inn F H ∧ StOk K F H σ ρ ∧ After W (EscA σ ρ (escB e)) F H σ (evalE G fe e ρ) (fun d F' H' => Q (truth d) H')
def tA (es : E) : TA := fun σ H Q => ∃ F ρ, Inn F H ∧ StOk K F H σ ρ ∧ After W (EscA σ ρ (escA es)) F H σ (evalA G fe es ρ) (fun ds F' H' => ∀ vs, Reps K F' vs ds → Q vs H')
def tAB (es : E) : TA := fun σ H Q => ∃ F ρ, Inn F H ∧ StOk K F H σ ρ ∧ After W (EscA σ ρ (escAB es)) F H σ (evalAB G fe es ρ) (fun ds F' H' => ∀ vs, RepBs K F' H' vs ds → Q vs H')
end
theorem _root_.L2.PE.weak {X : Cx} {e : Expr} {t t' : TE} (h : PE X e t) (w : ∀ σ H Q, t' σ H Q → t σ H Q) : PE X e t' := ⟨fun pins s σ H Q I h' => h.run pins s σ H Q I (w σ H Q h')⟩
theorem _root_.L2.PT.weak {X : Cx} {e : Expr} {t t' : TT} (h : PT X e t) (w : ∀ σ H Q, t' σ H Q → t σ H Q) : PT X e t' := ⟨fun pins s σ H Q I h' => h.run pins s σ H Q I (w σ H Q h')⟩
theorem _root_.L2.PW.weak {X : Cx} {e : Expr} {t t' : TT} (h : PW X e t) (w : ∀ σ H Q, t' σ H Q → t σ H Q) : PW X e t' := ⟨fun wh pins s σ H Q I h' => h.run wh pins s σ H Q I (w σ H Q h')⟩
theorem _root_.L2.PA.weak {X : Cx} {e : List Expr} {t t' : TA} (h : PA X e t) (w : ∀ σ H Q, t' σ H Q → t σ H Q) : PA X e t' := ⟨fun pos pins s σ H Q I h' => h.run pos pins s σ H Q I (w σ H Q h')⟩
theorem _root_.L2.PG.weak {X : Cx} {e : Expr} {t t' : TG} (h : PG X e t) (w : ∀ v σ H Q, t' v σ H Q → t v σ H Q) : PG X e t' := ⟨fun pins s σ H v u Q I r h' => h.run pins s σ H v u Q I r (w v σ H Q h')⟩
theorem _root_.L2.PGs.weak {X : Cx} {e : List Expr} {t t' : TGs} (h : PGs X e t) (w : ∀ v σ H Q, t' v σ H Q → t v σ H Q) : PGs X e t' := ⟨fun pins s σ H v u Q I r h' => h.run pins s σ H v u Q I r (w v σ H Q h')⟩
theorem _root_.L2.PI.weak {X : Cx} {tg e : Expr} {t t' : TI} (h : PI X tg e t) (w : ∀ σ H R, t' σ H R → t σ H R) : PI X tg e t' := ⟨fun pins s σ H R I h' => h.run pins s σ H R I (w σ H R h')⟩
theorem _root_.L2.PI.or {X : Cx} {tg e : Expr} {t t' : TI} (h : PI X tg e t) (h' : PI X tg e t') : PI X tg e (fun σ H R => t σ H R ∨ t' σ H R) := ⟨fun pins s σ H R I q => q.elim (h.run pins s σ H R I) (h'.run pins s σ H R I)⟩

section
variable {K : PySem.W.Frag} {G : Nat → Option D} {fe : Nat → List D → Res D} {W : Str → St → Hp → Prop}
theorem tX_of_tE {e : E} {σ : St} {H : Hp} {Q : VK} (h : tE K G fe W e σ H Q) : tX K G fe W e σ H Q := by
  obtain ⟨F, ρ, inn, st, h⟩ := h
  refine ⟨F, ρ, inn, st, h.re fun d F' H' e k v r => ?_⟩
  obtain ⟨F2, e2, _, r2⟩ := r.froz e
  exact k F2 e2 v r2
theorem esc_sub (e : E) : ∀ j ∈ escB e, j ∈ esc e := by
  intro j hj
  cases e <;> first | exact hj | (unfold escB at hj; cases hj)
theorem tX_of_tB {e : E} (hv : ∀ i, e ≠ .var i) {σ : St} {H : Hp} {Q : VK} (h : tB K G fe W e σ H Q) : tX K G fe W e σ H Q := by
  obtain ⟨F, ρ, inn, st, h⟩ := h
  have e1 : bor e ρ (evalE G fe e ρ) = evalE G fe e ρ := by
    cases e <;> first | rfl | exact absurd rfl (hv _)
  have e2 : escB e = esc e := by
    cases e <;> first | rfl | exact absurd rfl (hv _)
  rw [e1, e2] at h
  exact ⟨F, ρ, inn, st, h.map fun d F' H' e k v r => k v (r.b e.inn.sub)⟩
end

/-! ### what is known where the text runs -/
/-- a def's promise, by the small language -/
def spF (K : PySem.W.Frag) (xa : Str → Addr) (n : Nat) (call : List D → Res D) : Sp := fun vs H Q E => vs.length = n ∧ TabsK K H ∧ ∃ F ds, Inn F H ∧ Reps K F vs ds ∧
  match call ds with
  | .ok d => ∀ v F' H', Ext Nil F H F' H' → Rep K F' v d → Q v H'
  | .exc c => ∀ F' H', Ext Nil F H F' H' → E (.ref (xa c)) none H'
  | .bad => False
def bltNames : List Str := ["len", "all", "any", "tuple", "list", "sorted", "dict", "int", "str", "min", "max", "isinstance", "range", "enumerate", "zip", "set", "bool"]
structure Good (nm : Nms) (G : Nat → Option D) (fe : Nat → List D → Res D) (xa : Str → Addr) (Wx : WX) (X : Cx) : Prop where
  nd : X.N.Nodup
  calm : X.calm = true
  hu : X.A.units + 65 < cLine
  free : ∀ x ∈ bltNames, X.mg x = none
  glob : ∀ g ∈ nm.gs, ∃ d u v, G g = some d ∧ X.mg (nm.g g) = some u ∧ RelV v u ∧ ∀ F, Rep X.K F v d
  fns : ∀ f ∈ nm.fs, ∃ (a : Addr) (fd : FuncData) (ps : List Str) (k n : Nat), FnOk X.prog X.w X.K X.mg X.base (CX X.prog X.w) k a fd ps (spF X.K xa n (fe f)) ∧ (∀ ds d, fe f ds = .ok d → ds.length = n) ∧ (∀ ds c, fe f ds = .exc c → ds.length = n) ∧ Room k X.A ∧ X.mg (nm.f f) = some (.ref a) ∧ PySem.W.keepIn X.K (.ref a) = true ∧ Binds X.K fd ps []
  tups : ∀ g ∈ nm.ts, ∃ (a : Addr) (o : Obj) (ss : List Str), G g = some (.tuple (ss.map .str)) ∧ X.mg (nm.g g) = some (.ref a) ∧ X.K.lookup a = some o ∧ o.cls = .type "tuple" ∧ o.dict = none ∧ (∀ F, SqT X.K F a (ss.map V.str))
  dp : X.A.depth < recursionLimit
  lam : nm.lm = true → ∃ (x : Str) (c P : Addr), x ∈ lamNames ∧ X.env.code = .ref c ∧ tabOf X.K x = some P ∧ LamX.TabB X.base X.mg c P
  exs : ∀ c ∈ nm.xs, PySem.W.excIn X.K (xa (nm.x c)) He.veBase "ValueError.__new__" = true ∧ X.mg (nm.x c) = some (.ref (xa (nm.x c))) ∧ PySem.W.keepIn X.K (.ref (xa (nm.x c))) = true ∧ Raises X (.ref (xa (nm.x c)))
  tk : Takes X Wx
  own : PassesOwn (model X.prog X.w) X.A X.env X.xe
/-- what is wanted of an exception -/
abbrev wOf (xa : Str → Addr) (Wx : WX) : Str → St → Hp → Prop := fun c σ H => Wx (.ref (xa c)) none σ H
abbrev noW : WX := fun _ _ _ _ => False
theorem takes_no {X : Cx} : Takes X noW := fun _ _ x => by
  obtain ⟨_, _, _, _, _, _, _, _, _, _, _, _, _, _, _, _, z⟩ := x
  exact z.elim
theorem Good.blk {nm : Nms} {G : Nat → Option D} {fe : Nat → List D → Res D} {xa : Str → Addr} {Wx : WX} {X : Cx} (g : Good nm G fe xa Wx X) (s : Shared) (H : Hp) (scope : Scope) (cenv : PySem.Env) (fp : List Addr) (hcode : cenv.code = X.env.code := by rfl) : Good nm G fe xa noW (X.blk s H scope cenv fp) :=
  ⟨g.nd, g.calm, g.hu, g.free, g.glob, g.fns, g.tups, g.dp, fun h => by
    obtain ⟨x, c, P, h1, h2, h3, h4⟩ := g.lam h
    exact ⟨x, c, P, h1, hcode.trans h2, h3, h4⟩, g.exs, takes_no, PassesOwn.never⟩

/-! ### targets -/
theorem Env.at_put_self : ∀ {ρ : Env} {i : Nat} {s : Option Sl}, i < ρ.length → (ρ.put i s).at i = s
  | [], _, _, h => absurd h (Nat.not_lt_zero _)
  | _ :: _, 0, _, _ => rfl
  | _ :: r, i + 1, s, h => Env.at_put_self (ρ := r) (Nat.lt_of_succ_lt_succ h)
theorem Env.at_put_ne : ∀ {ρ : Env} {i j : Nat} {s : Option Sl}, j ≠ i → (ρ.put i s).at j = ρ.at j
  | [], _, _, _, _ => rfl
  | _ :: _, 0, 0, _, h => absurd rfl h
  | _ :: _, 0, _ + 1, _, _ => rfl
  | _ :: _, _ + 1, 0, _, _ => rfl
  | _ :: r, i + 1, j + 1, s, h => Env.at_put_ne (ρ := r) fun e => h (by rw [e])
theorem Env.put_length : ∀ {ρ : Env} {i : Nat} {s : Option Sl}, (ρ.put i s).length = ρ.length
  | [], _, _ => rfl
  | _ :: _, 0, _ => rfl
  | _ :: r, i + 1, s => by show (Env.put r i s).length + 1 = _; rw [Env.put_length]; rfl
theorem Env.at_ge : ∀ {ρ : Env} {i : Nat}, ρ.length ≤ i → ρ.at i = none
  | [], _, _ => rfl
  | _ :: _, 0, h => absurd h (by simp)
  | _ :: r, i + 1, h => Env.at_ge (ρ := r) (Nat.le_of_succ_le_succ h)
theorem StOk.put {K : PySem.W.Frag} {F H : Hp} {σ : St} {ρ : Env} (st : StOk K F H σ ρ) (i : Nat) {v : V} {s : Sl} (h : SlOk K F H v s) : StOk K F H (σ.set i (some v)) (ρ.put i (some s)) := by
  refine ⟨by rw [Env.put_length, st.len, List.length_set], st.tab, fun j t e => ?_⟩
  by_cases hj : j = i
  · subst hj
    by_cases hl : j < ρ.length
    · rw [Env.at_put_self hl] at e
      cases e
      exact ⟨v, by rw [List.getElem?_set_self (by rw [← st.len]; exact hl)], h⟩
    · rw [Env.at_ge (by rw [Env.put_length]; omega)] at e
      cases e
  · rw [Env.at_put_ne hj] at e
    obtain ⟨w, h1, h2⟩ := st.ok j t e
    exact ⟨w, by rw [List.getElem?_set_ne (Ne.symm hj)]; exact h1, h2⟩
/-- a loop's item: data, or a new tuple of data -/
def RepI (K : PySem.W.Frag) (F H : Hp) (v : V) (d : D) : Prop := Rep K F v d ∨ ∃ a vs ds, v = .ref a ∧ d = .tuple ds ∧ SqT K H a vs ∧ Reps K F vs ds
def isTp : Tg → Bool
  | .tp _ => true
  | _ => false
def RepG (t : Tg) (K : PySem.W.Frag) (F H : Hp) (v : V) (d : D) : Prop := if isTp t = true then RepI K F H v d else Rep K F v d
theorem Rep.g {K : PySem.W.Frag} {F H : Hp} {v : V} {d : D} (r : Rep K F v d) (t : Tg) : RepG t K F H v d := by
  unfold RepG
  split
  · exact .inl r
  · exact r
def RepW (b : Bool) (K : PySem.W.Frag) (F H : Hp) (v : V) (d : D) : Prop := if b = true then RepI K F H v d else Rep K F v d
theorem Rep.w {K : PySem.W.Frag} {F H : Hp} {v : V} {d : D} (r : Rep K F v d) : RepW false K F H v d := by
  unfold RepW
  rw [if_neg Bool.false_ne_true]
  exact r
theorem RepW.g {b : Bool} {t : Tg} (h : b = true → isTp t = true) {K : PySem.W.Frag} {F H : Hp} {v : V} {d : D} (r : RepW b K F H v d) : RepG t K F H v d := by
  unfold RepW at r
  split at r
  · rename_i hb
    unfold RepG
    rw [if_pos (h hb)]
    exact r
  · exact r.g t
section
variable (K : PySem.W.Frag)
/-- behind a target's store: the names as bindT says, the rest as it was -/
def tG (t : Tg) : TG := fun v σ H Q => ∃ F ρ d, Inn F H ∧ StOk K F H σ ρ ∧ RepG t K F H v d ∧ ∃ ρ', bindT t d ρ = .ok ρ' ∧ ∀ σ', StOk K F H σ' ρ' → σ'.length = σ.length → (∀ j, j ∉ t.slots → σ'[j]? = σ[j]?) → Q σ' H
def tGs (t : Tg) : TGs := fun vs σ H Q => ∃ F ρ ds, Inn F H ∧ StOk K F H σ ρ ∧ Reps K F vs ds ∧ ∃ ρ', bindT.bindTs t ds ρ = .ok ρ' ∧ ∀ σ', StOk K F H σ' ρ' → σ'.length = σ.length → (∀ j, j ∉ t.slots → σ'[j]? = σ[j]?) → Q σ' H
end
theorem star_one {x : Expr} (h : plainR x = true) (es : List Expr) (env : PySem.Env) : starEach (x :: es) env = (false, eval x env) :: starEach es env := by
  cases x <;> first | rfl | cases h
theorem star_oneA {x : Expr} (h : plainA x = true) (es : List Expr) (env : PySem.Env) : starEach (x :: es) env = (false, eval x env) :: starEach es env := by
  cases x <;> first | rfl | cases h
theorem plainA_of {x : Expr} (h : plainR x = true) : plainA x = true := by unfold plainA; rw [h]; rfl
theorem assign_one {x : Expr} (h : plainR x = true) (es : List Expr) (env : PySem.Env) : assignEach (x :: es) env = (false, assign x env) :: assignEach es env := by
  cases x <;> first | rfl | cases h
theorem res_bind_ok {α β : Type} {r : Res α} {f : α → Res β} {b : β} (h : r.bind f = .ok b) : ∃ a, r = .ok a ∧ f a = .ok b := by
  cases r with
  | ok a => exact ⟨a, rfl, h⟩
  | exc c => cases h
  | bad => cases h
theorem tgs_each {N : List Str} {sc : Scope} {fnb : Str → Bool} {env : PySem.Env} : ∀ {ts : Tg} {es : List Expr}, chkTg.chkTgs N sc fnb ts es = true → (assignEach es env).findIdx? (·.1) = none ∧ (assignEach es env).length = es.length
  | .nil, [], _ => ⟨rfl, rfl⟩
  | .cons t ts, e :: es, h => by
    unfold chkTg.chkTgs at h
    simp only [Bool.and_eq_true] at h
    rw [assign_one h.1.1]
    obtain ⟨h1, h2⟩ := tgs_each (env := env) h.2
    refine ⟨?_, by rw [List.length_cons, h2, List.length_cons]⟩
    rw [List.findIdx?_cons, h1]
    rfl
  | .nm _, _, h => by unfold chkTg.chkTgs at h; cases h
  | .tp _, _, h => by unfold chkTg.chkTgs at h; cases h
  | .nil, _ :: _, h => by unfold chkTg.chkTgs at h; cases h
  | .cons _ _, [], h => by unfold chkTg.chkTgs at h; cases h
theorem bindTs_len : ∀ {ts : Tg} {ds : List D} {ρ ρ' : Env} {N : List Str} {sc : Scope} {fnb : Str → Bool} {es : List Expr}, bindT.bindTs ts ds ρ = .ok ρ' → chkTg.chkTgs N sc fnb ts es = true → ds.length = es.length
  | .nil, [], _, _, _, _, _, [], _, _ => rfl
  | .nil, [], _, _, _, _, _, _ :: _, _, h => by unfold chkTg.chkTgs at h; cases h
  | .cons t ts, d :: ds, ρ, ρ', _, _, _, e :: es, h, h' => by
    unfold bindT.bindTs at h
    obtain ⟨ρ1, _, h2⟩ := res_bind_ok h
    unfold chkTg.chkTgs at h'
    simp only [Bool.and_eq_true] at h'
    rw [List.length_cons, List.length_cons, bindTs_len h2 h'.2]
  | .cons _ _, _ :: _, _, _, _, _, _, [], _, h => by unfold chkTg.chkTgs at h; cases h
  | .cons _ _, [], _, _, _, _, _, _, h, _ => by unfold bindT.bindTs at h; cases h
  | .nil, _ :: _, _, _, _, _, _, _, h, _ => by unfold bindT.bindTs at h; cases h
  | .nm _, _, _, _, _, _, _, _, h, _ => by unfold bindT.bindTs at h; cases h
  | .tp _, _, _, _, _, _, _, _, h, _ => by unfold bindT.bindTs at h; cases h
mutual
theorem soundG {X : Cx} (nd : X.N.Nodup) (calm : X.calm = true) : ∀ (t : Tg) (pe : Expr), chkTg X.N X.env.scope X.fn t pe = true → PG X pe (tG X.K t)
  | .nm i, pe, h => by
    cases pe with
    | Name x pos =>
      unfold chkTg at h
      simp only [Bool.and_eq_true, Bool.or_eq_true, decide_eq_true_eq] at h
      obtain ⟨h1, h2⟩ := h
      have hl : Loc X.env.scope x := h2.imp id (·.1)
      have hf : X.fn x = true ∨ X.env.scope.names.lookup x = some .local := h2.elim .inr fun q => .inl q.2
      refine (pg_name nd h1 hl hf).weak fun v σ H Q q => ?_
      obtain ⟨F, ρ, d, inn, st, r, ρ', e, k⟩ := q
      have r : Rep X.K F v d := r
      cases e
      exact k _ (st.put i (s := .dat d) r) (List.length_set ..) fun j hj => by
        have : j ≠ i := fun z => hj (by rw [z]; simp [Tg.slots])
        rw [List.getElem?_set_ne (Ne.symm this)]
    | _ => unfold chkTg at h; cases h
  | .tp ts, pe, h => by
    cases pe with
    | Tuple es kk pos =>
      unfold chkTg at h
      obtain ⟨n1, n2⟩ := tgs_each (env := X.env) h
      refine (pg_tup calm (soundGs nd calm ts es h) n2 n1).weak fun v σ H Q q => ?_
      obtain ⟨F, ρ, d, inn, st, r, ρ', e, k⟩ := q
      have r : RepI X.K F H v d := r
      rcases r with r | ⟨a, vs, ds, rfl, rfl, hq, rs⟩
      · cases r with
        | tup hq rs =>
          have hl := bindTs_len (show bindT.bindTs ts _ ρ = .ok ρ' from e) h
          exact ⟨_, _, rfl, inn.sub.sqT hq.sqT, by rw [rs.length]; exact hl, F, ρ, _, inn, st, rs, ρ', e, k⟩
        | _ => cases e
      · have hl := bindTs_len (show bindT.bindTs ts _ ρ = .ok ρ' from e) h
        exact ⟨_, _, rfl, hq, by rw [rs.length]; exact hl, F, ρ, _, inn, st, rs, ρ', e, k⟩
    | _ => unfold chkTg at h; cases h
  | .nil, pe, h => by unfold chkTg at h; cases pe <;> cases h
  | .cons _ _, pe, h => by unfold chkTg at h; cases pe <;> cases h
theorem soundGs {X : Cx} (nd : X.N.Nodup) (calm : X.calm = true) : ∀ (t : Tg) (es : List Expr), chkTg.chkTgs X.N X.env.scope X.fn t es = true → PGs X es (tGs X.K t)
  | .nil, es, h => by
    cases es with
    | nil =>
      refine pgs_nil.weak fun v σ H Q q => ?_
      obtain ⟨F, ρ, ds, inn, st, r, ρ', e, k⟩ := q
      cases r with
      | nil => cases e; exact ⟨rfl, k σ st rfl fun _ _ => rfl⟩
      | cons _ _ => cases e
    | cons e es => unfold chkTg.chkTgs at h; cases h
  | .cons t ts, es, h => by
    cases es with
    | nil => unfold chkTg.chkTgs at h; cases h
    | cons e es =>
      unfold chkTg.chkTgs at h
      simp only [Bool.and_eq_true] at h
      refine (pgs_cons (soundG nd calm t e h.1.2) (soundGs nd calm ts es h.2) (by rw [assign_one h.1.1]; rfl)).weak fun v σ H Q q => ?_
      obtain ⟨F, ρ, ds, inn, st, r, ρ', e, k⟩ := q
      cases r with
      | nil => cases e
      | @cons v vs d ds r rs =>
        obtain ⟨ρ1, e1, e2⟩ := res_bind_ok (show (bindT t d ρ).bind (bindT.bindTs ts ds) = .ok ρ' from e)
        refine ⟨_, _, rfl, F, ρ, d, inn, st, r.g t, ρ1, e1, fun σ1 st1 l1 a1 => ?_⟩
        refine ⟨F, ρ1, ds, inn, st1, rs, ρ', e2, fun σ2 st2 l2 a2 => k σ2 st2 (l2.trans l1) fun j hj => ?_⟩
        have hj : j ∉ t.slots ++ ts.slots := hj
        rw [a2 j (fun z => hj (List.mem_append_right _ z)), a1 j (fun z => hj (List.mem_append_left _ z))]
  | .nm _, es, h => by unfold chkTg.chkTgs at h; cases h
  | .tp _, es, h => by unfold chkTg.chkTgs at h; cases h
end
end G7

namespace G7
open L2 PyProof.Rows PySem.Spec PySem

/-! ### what is walked -/
structure WalkD (b : Bool) (K : PySem.W.Frag) (J : It) (ds : List D) (Gd : Hp → Hp → Prop) : Prop where
  mono : ∀ {A : Addr → Prop} {F H F' H' : Hp}, Ext A F H F' H' → Gd F H → Gd F' H'
  go : ∀ {i : Nat} {d : D} {F H : Hp}, Inn F H → Gd F H → ds[i]? = some d → J.go i H ∧ ∀ x H', J.yld i H x H' → ∃ F', Ext Nil F H F' H' ∧ RepW b K F' H' x d
  stop : ∀ {i : Nat} {F H : Hp}, Inn F H → Gd F H → ds.length ≤ i → J.stop i H
theorem walk_rng (K : PySem.W.Frag) (lo : Int) (n : Nat) : WalkD false K (Itr lo n) (rngD lo n) (fun _ _ => True) where
  mono := fun _ h => h
  go := fun {i d F H} inn _ h => by
    unfold rngD at h
    rw [List.getElem?_map] at h
    cases e : (List.range n)[i]? with
    | none => rw [e] at h; cases h
    | some k =>
      rw [e] at h
      cases h
      obtain ⟨h1, h2⟩ := List.getElem?_eq_some_iff.mp e
      rw [List.length_range] at h1
      rw [List.getElem_range] at h2
      subst h2
      refine ⟨h1, fun x H' y => ?_⟩
      obtain ⟨rfl, rfl⟩ := y
      exact ⟨F, Ext.refl inn, (Rep.int _).w⟩
  stop := fun _ _ h => by
    unfold rngD at h
    rw [List.length_map, List.length_range] at h
    exact h
theorem walk_lst (K : PySem.W.Frag) (a : Addr) (vs : List V) (ds : List D) (inj : ∀ H ys, SqL K H a vs → SqL K H a ys → ys = vs ∨ True) : WalkD false K (Itl K a) ds (fun F H => SqL K H a vs ∧ Reps K F vs ds) where
  mono := fun e h => ⟨e.same.sqL h.1, h.2.mono e.sub⟩
  go := fun {i d F H} inn h e => by
    obtain ⟨v, hv, r⟩ := h.2.get e
    refine ⟨⟨vs, v, h.1, hv⟩, fun x H' y => ?_⟩
    obtain ⟨rfl, y⟩ := y
    have := y vs h.1
    rw [hv] at this
    cases this
    exact ⟨F, Ext.refl inn, r.w⟩
  stop := fun _ h e => ⟨vs, h.1, by rw [h.2.length]; exact e⟩
theorem walk_tup (K : PySem.W.Frag) (a : Addr) (vs : List V) (ds : List D) : WalkD false K (Itt K a) ds (fun F H => SqT K H a vs ∧ Reps K F vs ds) where
  mono := fun e h => ⟨e.same.sqT h.1, h.2.mono e.sub⟩
  go := fun {i d F H} inn h e => by
    obtain ⟨v, hv, r⟩ := h.2.get e
    refine ⟨⟨vs, v, h.1, hv⟩, fun x H' y => ?_⟩
    obtain ⟨rfl, y⟩ := y
    have := y vs h.1
    rw [hv] at this
    cases this
    exact ⟨F, Ext.refl inn, r.w⟩
  stop := fun _ h e => ⟨vs, h.1, by rw [h.2.length]; exact e⟩
theorem walk_str (K : PySem.W.Frag) (x : Str) (ho : SOk x) : WalkD false K (Its x) (x.cps.toList.map fun c => .str ⟨#[c]⟩) (fun _ _ => True) where
  mono := fun _ h => h
  go := fun {i d F H} inn _ h => by
    rw [List.getElem?_map] at h
    cases e : x.cps.toList[i]? with
    | none => rw [e] at h; cases h
    | some c =>
      rw [e] at h
      cases h
      have hi : i < x.cps.size := by have := (List.getElem?_eq_some_iff.mp e).1; simpa using this
      refine ⟨hi, fun v H' y => ?_⟩
      obtain ⟨rfl, c', hc', rfl⟩ := y
      have e2 : x.cps[i]? = some c := by rw [← Array.getElem?_toList]; exact e
      rw [e2] at hc'
      cases hc'
      exact ⟨F, Ext.refl inn, Rep.w <| .str (ho.of_sub (l := [c]) (by show 1 ≤ sizeLine; decide) fun c' h' => by simp at h'; subst h'; exact List.mem_of_getElem? e)⟩
  stop := fun _ _ h => by
    rw [List.length_map] at h
    show x.cps.size ≤ _
    simpa using h
/-- its items are new tuples -/
def isEn : E → Bool
  | .enum _ => true
  | .zip _ _ => true
  | _ => false
section
variable (K : PySem.W.Frag) (G : Nat → Option D) (fe : Nat → List D → Res D) (W : Str → St → Hp → Prop)
def tI (it : E) : TI := fun σ H R => ∃ F ρ, Inn F H ∧ StOk K F H σ ρ ∧ After W (EscA σ ρ (escI it)) F H σ (evalI G fe it ρ) (fun ds F' H' => ∀ J Gd, WalkD (isEn it) K J ds Gd → Gd F' H' → ds.length ≤ sizeLine → R J H')
def tC (cs : E) : TT := fun σ H Q => ∃ F ρ, Inn F H ∧ StOk K F H σ ρ ∧ After W (EscA σ ρ (escC cs)) F H σ (evalC G fe cs ρ) (fun c F' H' => Q c H')
end
/-- lists and tuples have a largest size -/
def Bnd (K : PySem.W.Frag) (x : V) (H : Hp) : Prop := (∀ a xs, x = .ref a → SqL K H a xs → xs.length ≤ sizeLine) ∧ ∀ a xs, x = .ref a → SqT K H a xs → xs.length ≤ sizeLine
theorem pe_bnd {X : Cx} {e : Expr} {te : TE} (h : PE X e te) : PE X e (fun σ H Q => te σ H fun x H1 => Bnd X.K x H1 → Q x H1) := by
  refine ⟨fun pins s σ H Q I hw => thn (h.run pins s σ H _ I hw) fun u s1 ⟨v, H', I', r, q⟩ => ⟨v, H', I', r, q ⟨fun a xs _ hs => ?_, fun a xs _ hs => ?_⟩⟩⟩
  · exact (I'.list hs).choose_spec.2.2
  · exact (I'.tuple hs).choose_spec.2.2

/-! ### a comprehension's names -/
theorem wipeE_length (ρ : Env) : ∀ vs : List Nat, (wipeE ρ vs).length = ρ.length
  | [] => rfl
  | v :: vs => by unfold wipeE; rw [Env.put_length, wipeE_length ρ vs]
theorem wipeE_in {ρ : Env} {i : Nat} : ∀ {vs : List Nat}, i ∈ vs → (wipeE ρ vs).at i = none
  | v :: vs, h => by
    unfold wipeE
    by_cases e : i = v
    · subst e
      by_cases hl : i < (wipeE ρ vs).length
      · exact Env.at_put_self hl
      · exact Env.at_ge (by rw [Env.put_length]; omega)
    · rw [Env.at_put_ne e]
      rcases List.mem_cons.mp h with h | h
      · exact absurd h e
      · exact wipeE_in h
theorem wipeE_out {ρ : Env} {i : Nat} : ∀ {vs : List Nat}, i ∉ vs → (wipeE ρ vs).at i = ρ.at i
  | [], _ => rfl
  | v :: vs, h => by
    unfold wipeE
    rw [Env.at_put_ne (fun e => h (by simp [e]))]
    exact wipeE_out fun z => h (List.mem_cons_of_mem _ z)
theorem StOk.wipe {K : PySem.W.Frag} {F H : Hp} {σ : St} {ρ : Env} (st : StOk K F H σ ρ) (vs : List Nat) : StOk K F H (L2.wipe σ vs) (wipeE ρ vs) := by
  refine ⟨by rw [wipeE_length, wipe_length, st.len], st.tab, fun i s e => ?_⟩
  by_cases h : i ∈ vs
  · rw [wipeE_in h] at e; cases e
  · rw [wipeE_out h] at e
    obtain ⟨v, h1, h2⟩ := st.ok i s e
    exact ⟨v, by rw [wipe_out h]; exact h1, h2⟩
theorem wipe_congr {σ τ : St} (hl : σ.length = τ.length) {vs : List Nat} (h : ∀ j, j ∉ vs → σ[j]? = τ[j]?) : L2.wipe σ vs = L2.wipe τ vs := by
  apply List.ext_getElem?
  intro i
  by_cases hi : i ∈ vs
  · have key : ∀ (σ : St) (vs : List Nat), i ∈ vs → (L2.wipe σ vs)[i]? = if i < σ.length then some none else none := by
      intro σ vs
      induction vs with
      | nil => intro h; cases h
      | cons v vs ih =>
        intro h
        unfold L2.wipe
        by_cases e : v = i
        · subst e
          by_cases hl : v < σ.length
          · rw [List.getElem?_set_self (by rw [wipe_length]; exact hl), if_pos hl]
          · rw [List.getElem?_eq_none (by rw [List.length_set, wipe_length]; omega), if_neg hl]
        · rw [List.getElem?_set_ne e]
          rcases List.mem_cons.mp h with z | z
          · exact absurd z.symm e
          · exact ih z
    rw [key σ vs hi, key τ vs hi, hl]
  · rw [wipe_out hi, wipe_out hi, h i hi]
mutual
theorem bindT_out : ∀ {t : Tg} {d : D} {ρ ρ' : Env} {j : Nat}, bindT t d ρ = .ok ρ' → (j ∉ t.slots → ρ'.at j = ρ.at j) ∧ (∀ s, j ∈ t.slots → ρ'.at j = some s → ∃ d, s = .dat d)
  | .nm i, d, ρ, ρ', j, h => by
    cases h
    refine ⟨fun hj => Env.at_put_ne fun e => hj (by simp [Tg.slots, e]), fun s hj e => ?_⟩
    have hj : j = i := by simpa [Tg.slots] using hj
    subst hj
    by_cases hl : j < ρ.length
    · rw [Env.at_put_self hl] at e; cases e; exact ⟨d, rfl⟩
    · rw [Env.at_ge (by rw [Env.put_length]; omega)] at e; cases e
  | .tp ts, .tuple ds, ρ, ρ', j, h => by
    have q := bindTs_out (t := ts) (j := j) (show bindT.bindTs ts ds ρ = .ok ρ' from h)
    exact q
  | .tp _, .none, _, _, _, h => by cases h
  | .tp _, .bool _, _, _, _, h => by cases h
  | .tp _, .int _, _, _, _, h => by cases h
  | .tp _, .str _, _, _, _, h => by cases h
  | .tp _, .list _, _, _, _, h => by cases h
  | .tp _, .dict _, _, _, _, h => by cases h
  | .nil, _, _, _, _, h => by cases h
  | .cons _ _, _, _, _, _, h => by cases h
theorem bindTs_out : ∀ {t : Tg} {ds : List D} {ρ ρ' : Env} {j : Nat}, bindT.bindTs t ds ρ = .ok ρ' → (j ∉ t.slots → ρ'.at j = ρ.at j) ∧ (∀ s, j ∈ t.slots → ρ'.at j = some s → ∃ d, s = .dat d)
  | .nil, [], ρ, ρ', j, h => by cases h; exact ⟨fun _ => rfl, fun s hj _ => by simp [Tg.slots] at hj⟩
  | .cons t ts, d :: ds, ρ, ρ', j, h => by
    obtain ⟨ρ1, e1, e2⟩ := res_bind_ok (show (bindT t d ρ).bind (bindT.bindTs ts ds) = .ok ρ' from h)
    obtain ⟨a1, a2⟩ := bindT_out (j := j) e1
    obtain ⟨b1, b2⟩ := bindTs_out (j := j) e2
    have es : (Tg.cons t ts).slots = t.slots ++ ts.slots := rfl
    refine ⟨fun hj => ?_, fun s hj e => ?_⟩
    · rw [es, List.mem_append] at hj
      rw [b1 fun z => hj (.inr z), a1 fun z => hj (.inl z)]
    · by_cases hts : j ∈ ts.slots
      · exact b2 s hts e
      · rw [b1 hts] at e
        rw [es, List.mem_append] at hj
        exact a2 s (hj.resolve_right hts) e
  | .nil, _ :: _, _, _, _, h => by cases h
  | .cons _ _, [], _, _, _, h => by cases h
  | .nm _, _, _, _, _, h => by cases h
  | .tp _, _, _, _, _, h => by cases h
end

/-! ### the comprehension -/
theorem TabO.over {H : Hp} {P D : Addr} {o : HO} (t : TabO H P) (h1 : ∀ ps, H D ≠ some (.tbl ps)) (h2 : ∀ c q, H D ≠ some (LamX.CodeO c q)) : TabO (upd H D o) P :=
  t.mono (fun ps q => by rw [upd_ne (fun z => h1 ps (by rw [← z]; exact q))]; exact q) fun c q e => by rw [upd_ne (fun z => h2 c q (by rw [← z]; exact e))]; exact e
theorem Ext.grow {A : Addr → Prop} {F1 H1 F H : Hp} {D : Addr} {o : HO} {xs : List V} (e : Ext A F1 H1 F H) (h1 : H1 D = none) (hF : F D = none) (hD : H D = some (.lst xs)) : Ext A F1 H1 F (upd H D o) :=
  ⟨e.sub, ⟨fun a u q n => by rw [upd_ne (ne_of_none q h1)]; exact e.same.keep a u q n, fun a ps q => by
    obtain ⟨m, z⟩ := e.same.tbl a ps q
    exact ⟨m, by rw [upd_ne (ne_of_none q h1)]; exact z⟩, fun P t => (e.same.tab P t).over (fun ps z => by rw [hD] at z; cases z) fun c q z => by rw [hD] at z; cases z⟩, e.new, ⟨fun a u q => by rw [upd_ne (ne_of_none q hF)]; exact e.inn.sub a u q, e.inn.plain⟩⟩
theorem StOk.own_at {K : PySem.W.Frag} {F H : Hp} {σ : St} {ρ : Env} (st : StOk K F H σ ρ) {j : Nat} {d : D} (h : ρ.at j = some (.own d)) : ∃ p o, σ[j]? = some (some (.ref p)) ∧ H p = some o := by
  obtain ⟨v, h1, h2⟩ := st.ok j _ h
  cases d with
  | list ds => obtain ⟨p, vs, rfl, hp, _⟩ := h2; exact ⟨p, _, h1, hp⟩
  | dict ds => obtain ⟨p, vs, rfl, hp, _⟩ := h2; exact ⟨p, _, h1, hp⟩
  | none => exact h2.elim
  | bool b => exact h2.elim
  | int i => exact h2.elim
  | str x => exact h2.elim
  | tuple ds => exact h2.elim
theorem calm_ok {α : Type} {r : Res α} {a : α} (h : calm r = .ok a) : r = .ok a := by
  cases r with
  | ok b => exact h
  | exc c => cases h
  | bad => cases h
section
variable {K : PySem.W.Frag} {G : Nat → Option D} {fe : Nat → List D → Res D} {W : Str → St → Hp → Prop}
/-- the reading of a comprehension, from the small language's -/
theorem lc_read {elt : E} {t : Tg} {it cs : E} {σ : St} {H : Hp} {Q : VK} (ht : isEn it = true → isTp t = true) (h : tX K G fe W (.lc elt t it cs) σ H Q) :
    tLc (tI K G fe W it) (tG K t) (tC K G fe (fun _ _ _ => False) cs) (tE K G fe (fun _ _ _ => False) elt) t.slots σ H Q := by
  obtain ⟨F, ρ, inn, st, h⟩ := h
  have hA : ∀ j, j ∈ escI it → j ∈ esc (.lc elt t it cs) := fun j hj => List.mem_append_left _ hj
  have h' := After.bind (A1 := EscA σ ρ (escI it)) (A2 := EscA σ ρ (esc (.lc elt t it cs))) (show After W _ F H σ ((evalI G fe it ρ).bind _) _ from h) (fun a => EscA.mono hA) (fun _ x => x)
  refine ⟨F, ρ, inn, st, h'.map fun xs F1 H1 e1 h1 J Gd wk gd hlen D hD => ?_⟩
  -- the loop's own answer
  obtain ⟨ys, hys, kq⟩ : ∃ ys, lcLoop (fun x => (bindT t x (wipeE ρ t.slots)).bind fun ρ1 => (evalC G fe cs ρ1).bind fun c => if c then (evalE G fe elt ρ1).bind fun y => .ok (some y) else .ok none) xs = .ok ys ∧
      ∀ F' H', Ext (EscA σ ρ (esc (.lc elt t it cs))) F1 H1 F' H' → ∀ v, RepX true K H F' H' v (.list ys) → Q v H' := by
    cases hc : calm (lcLoop (fun x => (bindT t x (wipeE ρ t.slots)).bind fun ρ1 => (evalC G fe cs ρ1).bind fun c => if c then (evalE G fe elt ρ1).bind fun y => .ok (some y) else .ok none) xs) with
    | ok ys =>
      have h1 : After W (EscA σ ρ (esc (.lc elt t it cs))) F1 H1 σ ((calm (lcLoop (fun x => (bindT t x (wipeE ρ t.slots)).bind fun ρ1 => (evalC G fe cs ρ1).bind fun c => if c then (evalE G fe elt ρ1).bind fun y => .ok (some y) else .ok none) xs)).bind fun ys => .ok (PyData.list ys)) (fun d F' H' => ∀ v, RepX true K H F' H' v d → Q v H') := h1
      rw [hc] at h1
      exact ⟨ys, calm_ok hc, h1⟩
    | exc c =>
      exfalso
      revert hc
      cases lcLoop (fun x => (bindT t x (wipeE ρ t.slots)).bind fun ρ1 => (evalC G fe cs ρ1).bind fun c => if c then (evalE G fe elt ρ1).bind fun y => .ok (some y) else .ok none) xs <;> intro hc <;> cases hc
    | bad =>
      have h1 : After W (EscA σ ρ (esc (.lc elt t it cs))) F1 H1 σ ((calm (lcLoop (fun x => (bindT t x (wipeE ρ t.slots)).bind fun ρ1 => (evalC G fe cs ρ1).bind fun c => if c then (evalE G fe elt ρ1).bind fun y => .ok (some y) else .ok none) xs)).bind fun ys => .ok (PyData.list ys)) (fun d F' H' => ∀ v, RepX true K H F' H' v d → Q v H') := h1
      rw [hc] at h1
      exact h1.elim
  generalize hf : (fun x => (bindT t x (wipeE ρ t.slots)).bind fun ρ1 => (evalC G fe cs ρ1).bind fun c => if c then (evalE G fe elt ρ1).bind fun y => Res.ok (some y) else Res.ok none) = f at hys
  have st1 : StOk K F1 H1 σ ρ := st.ext e1 inn
  have i1 : Inn F1 H1 := e1.inn
  -- no own name stands at D
  have noD : ∀ j d, ρ.at j = some (.own d) → σ[j]? ≠ some (some (.ref D)) := fun j d hj hs => by
    obtain ⟨p, o, h1, h2⟩ := st1.own_at hj
    rw [hs] at h1
    cases h1
    rw [hD] at h2
    cases h2
  refine ⟨fun i m H2 => m = xs.length - i ∧ i ≤ xs.length ∧ ∃ F2 acc dn rest, Ext (EscA σ ρ (esc (.lc elt t it cs))) F1 H1 F2 H2 ∧ H2 D = some (.lst acc) ∧ F2 D = none ∧ Reps K F2 acc dn ∧ acc.length ≤ i ∧ lcLoop f (xs.drop i) = .ok rest ∧ dn ++ rest = ys,
    ⟨xs.length, rfl, Nat.zero_le _, F1, [], [], ys, Ext.laid i1 hD, upd_same, i1.free hD, .nil, Nat.le_refl _, hys, rfl⟩, ?_⟩
  rintro i m H2 ⟨rfl, hi, F2, acc, dn, rest, e2, hDa, hFD, ra, la, hrest, hcat⟩
  have st2 : StOk K F2 H2 σ ρ := st1.ext e2 i1
  have gd2 : Gd F2 H2 := wk.mono e2 gd
  by_cases hlt : i < xs.length
  · right
    have hx : xs[i]? = some xs[i] := by simp [hlt]
    obtain ⟨hgo, hyld⟩ := wk.go e2.inn gd2 hx
    refine ⟨hgo, fun H' => xs.length - (i + 1) = xs.length - (i + 1) ∧ i + 1 ≤ xs.length ∧ ∃ F2 acc dn rest, Ext (EscA σ ρ (esc (.lc elt t it cs))) F1 H1 F2 H' ∧ H' D = some (.lst acc) ∧ F2 D = none ∧ Reps K F2 acc dn ∧ acc.length ≤ i + 1 ∧ lcLoop f (xs.drop (i + 1)) = .ok rest ∧ dn ++ rest = ys,
      fun H' q => ⟨xs.length - (i + 1), by omega, q⟩, fun x H3 y => ?_⟩
    obtain ⟨F3, e3, rx⟩ := hyld x H3 y
    have e13 : Ext (EscA σ ρ (esc (.lc elt t it cs))) F1 H1 F3 H3 := e2.trans e3 (fun _ z => z) fun _ z => z.elim
    rw [List.drop_eq_getElem_cons hlt] at hrest
    obtain ⟨o, ho, hrest⟩ := res_bind_ok (show (f xs[i]).bind (fun o => (lcLoop f (xs.drop (i + 1))).bind fun ys => .ok (consO o ys)) = .ok rest from hrest)
    obtain ⟨rest', hr', hrest⟩ := res_bind_ok hrest
    have hrest : consO o rest' = rest := by injection hrest
    rw [← hf] at ho
    obtain ⟨ρ1, hb, ho⟩ := res_bind_ok ho
    obtain ⟨c, hc, ho⟩ := res_bind_ok ho
    have D3 : H3 D = some (.lst acc) := e3.same.keep D _ hDa rfl
    have FD3 : F3 D = none := by
      cases q : F3 D with
      | none => rfl
      | some z =>
        rcases e3.new D z q with w | w | w
        · rw [hFD] at w; cases w
        · rw [hDa] at w; cases w
        · exact w.elim
    have st3 : StOk K F3 H3 σ ρ := st1.ext e13 i1
    refine ⟨F3, wipeE ρ t.slots, xs[i], e3.inn, st3.wipe _, rx.g ht, ρ1, hb, fun σ2 s2 l2 a2 => ⟨?_, ?_⟩⟩
    · have h1 : L2.wipe σ2 t.slots = L2.wipe (L2.wipe σ t.slots) t.slots := wipe_congr (by rw [l2]) a2
      have h2 : L2.wipe (L2.wipe σ t.slots) t.slots = L2.wipe σ t.slots := wipe_congr (wipe_length _ _) fun j hj => wipe_out hj
      rw [h1, h2]
    -- what gets out of the block gets out of the whole
    have out : ∀ js, (∀ j ∈ js, j ∈ esc elt ++ escC cs) → ∀ a, EscA σ2 ρ1 js a → EscA σ ρ (esc (.lc elt t it cs)) a := by
      rintro js hjs a ⟨j, hj, ⟨d, hd⟩, hs⟩
      obtain ⟨b1, b2⟩ := bindT_out (j := j) hb
      have hn : j ∉ t.slots := fun z => by obtain ⟨d', e⟩ := b2 _ z hd; cases e
      rw [b1 hn, wipeE_out hn] at hd
      rw [a2 j hn, wipe_out hn] at hs
      refine ⟨j, ?_, ⟨d, hd⟩, hs⟩
      refine List.mem_append_right _ (List.mem_filter.mpr ⟨hjs j hj, ?_⟩)
      simpa using hn
    have notD : ∀ js, (∀ j ∈ js, j ∈ esc elt ++ escC cs) → ¬ EscA σ2 ρ1 js D := by
      intro js hjs z
      obtain ⟨j, _, ⟨d, hd⟩, hs⟩ := out js hjs D z
      exact noD j d hd hs
    have keepD : ∀ {js F4 H4}, (∀ j ∈ js, j ∈ esc elt ++ escC cs) → ∀ {F3 H3 : Hp}, F3 D = none → H3 D = some (.lst acc) → Ext (EscA σ2 ρ1 js) F3 H3 F4 H4 → F4 D = none ∧ H4 D = some (.lst acc) := by
      intro js F4 H4 hjs F3 H3 f3 d3 e4
      refine ⟨?_, e4.same.keep D _ d3 rfl⟩
      cases q : F4 D with
      | none => rfl
      | some z =>
        rcases e4.new D z q with w | w | w
        · rw [f3] at w; cases w
        · rw [d3] at w; cases w
        · exact (notD js hjs w).elim
    have subC : ∀ j ∈ escC cs, j ∈ esc elt ++ escC cs := fun j hj => List.mem_append_right _ hj
    have subE : ∀ j ∈ esc elt, j ∈ esc elt ++ escC cs := fun j hj => List.mem_append_left _ hj
    refine ⟨F3, ρ1, e3.inn, s2, ?_⟩
    rw [hc]
    intro F4 H4 e4
    obtain ⟨F4D, H4D⟩ := keepD subC FD3 D3 e4
    have e14 : Ext (EscA σ ρ (esc (.lc elt t it cs))) F1 H1 F4 H4 := e13.trans e4 (fun _ z => z) (out _ subC)
    cases c with
    | false =>
      cases ho
      rw [if_neg Bool.false_ne_true]
      refine ⟨rfl, hlt, F4, acc, dn, rest', e14, H4D, F4D, ra.mono (e3.sub.trans e4.sub), by omega, hr', ?_⟩
      rw [← hcat, ← hrest]; rfl
    | true =>
      rw [if_pos rfl]
      have s4 : StOk K F4 H4 σ2 ρ1 := s2.ext e4 e3.inn
      obtain ⟨dy, hy, ho⟩ := res_bind_ok (show (evalE G fe elt ρ1).bind (fun y => Res.ok (some y)) = .ok o from ho)
      cases ho
      refine ⟨F4, ρ1, e4.inn, s4, ?_⟩
      rw [hy]
      intro F5 H5 e5 y ry
      obtain ⟨F5D, H5D⟩ := keepD subE F4D H4D e5
      have e15 : Ext (EscA σ ρ (esc (.lc elt t it cs))) F1 H1 F5 H5 := e14.trans e5 (fun _ z => z) (out _ subE)
      refine ⟨acc, H5D, by omega, rfl, hlt, F5, acc ++ [y], dn ++ [dy], rest', e15.grow hD F5D H5D, upd_same, F5D, ?_, by rw [List.length_append]; simp; omega, hr', ?_⟩
      · exact (ra.mono (e3.sub.trans (e4.sub.trans e5.sub))).append (.cons ry .nil)
      · rw [← hcat, ← hrest, List.append_assoc]
        rfl
  · left
    have ei : i = xs.length := by omega
    subst ei
    refine ⟨wk.stop e2.inn gd2 (Nat.le_refl _), ?_⟩
    rw [List.drop_length] at hrest
    cases hrest
    rw [List.append_nil] at hcat
    subst hcat
    exact kq F2 H2 e2 _ ⟨D, acc, rfl, e1.same.free hD, hFD, hDa, ra⟩
end
end G7

namespace G7
open L2 PyProof.Rows PySem.Spec PySem
/-! ### enumerate(t), t a tuple -/
theorem enum_newT (l : Addr) (items : Array Value) (n : Nat) (dct : Option Addr) (sl : Array (Option Value)) :
    Meets (Builtin.«enumerate.__new__» ⟨[.type "enumerate", .ref l], []⟩) (fun _ R s => s.heap.get? l = some { cls := .type "tuple", dict := dct, data := .seq items n, slots := sl } ∧
      R (.ok (.ret (.ref (s.heap.push { cls := .type "tuple_iterator", data := .fields #[.ref l, .int 0 0] }).objs.size)))
        { s with heap := (s.heap.push { cls := .type "tuple_iterator", data := .fields #[.ref l, .int 0 0] }).push { cls := .type "enumerate", data := .fields #[.none, .bool false, .ref s.heap.objs.size, rawInt 0, .none, .none] } }) :=
  .of_wp fun prog w A R s h => by
    obtain ⟨hp, g, d, tk, os⟩ := s; obtain ⟨hl, h⟩ := h
    have hsub := sub_enumerate
    have hL : Heap.IsTuple (Shared.heap ⟨hp, g, d, tk, os⟩) l items := ⟨_, hl, rfl, n, rfl⟩
    wp_walk using wpAny_loadPart' hl
    refine wpAny_stack_any fun st => wpAny_pure ?_
    split
    · rename_i c _ _ _ _ _
      cases (c == Value.type "enumerate")
      · wp_walk using wpAny_loadPart' hl, wpAny_pyIter_tuple hL
        exact ⟨_, rfl, h⟩
      · wp_walk using wpAny_loadPart' hl, wpAny_pyIter_tuple hL
        exact ⟨_, rfl, h⟩
    · wp_walk using wpAny_loadPart' hl, wpAny_pyIter_tuple hL
      exact ⟨_, rfl, h⟩
theorem call_enumT {prog : Program} {w : World} {A : Around} {E : Value → Shared → Prop} {s : Shared} {l : Addr} {items : Array Value} {Q : Value → Shared → Prop} (hL : s.heap.IsTuple l items)
    (h : ∀ h', IsEnum h' (s.heap.objs.size + 1) s.heap.objs.size 0 .none → h'.IsTupleIter s.heap.objs.size l 0 → h'.objs.size = s.heap.objs.size + 2 →
      (∀ b o, s.heap.get? b = some o → h'.get? b = some o) → Q (.ref (s.heap.objs.size + 1)) { s with heap := h' }) :
    wpAny (model prog w) A (PySem.call (.type "enumerate") [.ref l]) Q E s := by
  obtain ⟨⟨c, dct, dt, sl⟩, hl, hc, n, hd⟩ := hL
  replace hc : c = .type "tuple" := hc
  replace hd : dt = .seq items n := hd
  subst hc hd
  refine callType_new F.called_enumerate (by decide) (F.typeCall_enumerate_1 _) (F.newCall_enumerate_1 _) (fun obj => F.args_object_init_2 obj _) F.entry_enumerate_new
    (enum_newT l items n dct sl) ⟨hl, ?_⟩
  have hz : (s.heap.push { cls := .type "tuple_iterator", data := .fields #[.ref l, .int 0 0] }).objs.size = s.heap.objs.size + 1 := Heap.size_push ..
  show _ ∧ _
  rw [hz]
  have he : IsEnum ((s.heap.push { cls := .type "tuple_iterator", data := .fields #[.ref l, .int 0 0] }).push
      { cls := .type "enumerate", data := .fields #[.none, .bool false, .ref s.heap.objs.size, rawInt 0, .none, .none] }) (s.heap.objs.size + 1) s.heap.objs.size 0 .none := by
    have := Heap.get?_push_size (s.heap.push { cls := .type "tuple_iterator", data := .fields #[.ref l, .int 0 0] })
      (o := { cls := .type "enumerate", data := .fields #[.none, .bool false, .ref s.heap.objs.size, rawInt 0, .none, .none] }) rfl
    rw [hz] at this; exact this
  refine ⟨⟨_, he, rfl⟩, h _ he ⟨_, Heap.get?_push_of_some _ (Heap.get?_push_size _ rfl), rfl, rfl⟩ (by rw [Heap.size_push, hz]) fun b o x => Heap.get?_push_of_some _ (Heap.get?_push_of_some _ x)⟩
def IteT (K : PySem.W.Frag) (a : Addr) : It :=
  ⟨fun i H => ∃ (xs : List V) (x : V), SqT K H a xs ∧ xs[i]? = some x, fun i H v H' => ∃ T x, v = .ref T ∧ H T = none ∧ H' = upd H T (.tup [.int (i : Nat), x]) ∧ ∀ xs, SqT K H a xs → xs[i]? = some x, fun i H => ∃ xs : List V, SqT K H a xs ∧ xs.length ≤ i⟩
theorem turn_enumT {P : Program} {w : World} {K : PySem.W.Frag} {elts : List Expr} {kk : Nat} {tpos : Pos} (a e it : Addr) :
    Turn P w K (.Tuple elts kk tpos) (IteT K a) [e, it] e (fun i h => (∃ old, IsEnum h e it ((i : Nat) : Int) old) ∧ h.IsTupleIter it a i ∧ e ≠ it) where
  mem := by simp
  obj := fun i h st b hb => by
    obtain ⟨⟨old, he⟩, ⟨o, ho, hc, hd⟩, _⟩ := st
    have e' : b = e ∨ b = it := by simpa using hb
    rcases e' with z | z
    · rw [z]; exact ⟨_, he, fun v q => nomatch q⟩
    · rw [z]; exact ⟨o, ho, fun v q => by rw [hd] at q; cases q⟩
  keep := fun i h h' st k => let ⟨⟨old, he⟩, hi, hne⟩ := st; ⟨⟨old, k e (by simp) _ he⟩, hi.at fun o q => k it (by simp) o q, hne⟩
  item := by
    intro X hP hw hK hc i pins s σ H E I hf st hg
    subst hP hw hK
    obtain ⟨⟨old, he⟩, hit, hne⟩ := st
    obtain ⟨xs, x, hq, hx⟩ := hg
    obtain ⟨its, rv, p, hz⟩ := I.tuple hq
    obtain ⟨u, hu, ru⟩ := rv.get hx
    have hel : e < s.heap.objs.size := Heap.lt_size he
    have hil : it < s.heap.objs.size := by obtain ⟨_, q, _⟩ := hit; exact Heap.lt_size q
    have pt : s.heap.IsTuple a its.toArray := p
    have nai : a ≠ it := by
      obtain ⟨o1, q1, c1, _⟩ := pt
      obtain ⟨o2, q2, c2, _⟩ := hit
      intro z
      rw [z, q2] at q1
      cases q1
      rw [c2] at c1
      exact absurd c1 (by decide)
    have nae : e ≠ a := by
      obtain ⟨o1, q1, c1, _⟩ := pt
      intro z
      have he' : s.heap.get? e = some _ := he
      rw [z, q1] at he'
      cases he'
      have c1 : Value.type "enumerate" = Value.type "tuple" := c1
      injection c1 with c1
      exact absurd c1 (by decide)
    have lt : i < its.toArray.size := by
      have := (List.getElem?_eq_some_iff.mp hu).1
      simpa using this
    refine wpAny_pyNext_enum_itemD (Draws.tuple (by exact I.ok.hd hc) it a nai its.toArray) he ⟨hit, pt⟩ lt hne (by simp; exact ⟨hne, nae⟩) fun x' h' tk hx' ho hit' hT hsz hk => ?_
    have ex : x' = u := by
      have hx' : its.toArray[i]? = some x' := hx'
      have : its[i]? = some x' := by simpa using hx'
      rw [hu] at this
      exact (Option.some.inj this).symm
    subst ex
    refine ⟨_, rfl, wpAny_letOwnedTupleGo_enum (s := { s with heap := h', toks := tk + 1 }) ho fun h'' he' sb => ?_⟩
    have hT2 : h''.get? s.heap.objs.size = some { cls := .type "tuple", data := .seq #[.int i tk, x'] } := (sb.2 _ (Nat.ne_of_gt hel)).trans hT
    have new : ObjOk X.prog X.w (upd H s.heap.objs.size (.tup [.int (i : Nat), x])) h'' s.heap.objs.size (.tup [.int (i : Nat), x]) :=
      ⟨by show 2 ≤ sizeLine; decide, [.int i tk, x'], .cons ⟨_, rfl⟩ (.cons ru .nil), ⟨_, hT2, rfl, _, rfl⟩⟩
    have I1 : Inv X pins σ (upd H s.heap.objs.size (.tup [.int (i : Nat), x])) { s with heap := h'', toks := tk + 1 } :=
      I.turnedNew (ch := [e, it]) (fun b ob hb q => (sb.2 b (fun z => hb (by simp [z]))).trans (hk b ob (fun z => hb (by simp [z])) (fun z => hb (by simp [z])) q)) hf (Nat.le_refl _) new
    refine ⟨.ref s.heap.objs.size, _, I1, rfl, ⟨_, x, rfl, I.hok.fresh (Nat.le_refl _), rfl, fun ys hy => by rw [I.tuple_inj hy hq]; exact hx⟩, ⟨⟨x', ?_⟩, hit'.1.at fun o q => (sb.2 it (Ne.symm hne)).trans q, hne⟩, fun b hb => ?_⟩
    · have e1 : ((i + 1 : Nat) : Int) = (i : Int) + 1 := by omega
      rw [e1]; exact he'
    · have hb' : b < s.heap.objs.size := by
        have e' : b = e ∨ b = it := by simpa using hb
        rcases e' with z | z
        · rw [z]; exact hel
        · rw [z]; exact hil
      rw [upd_ne (Nat.ne_of_lt hb')]
      exact (hf b hb).1
  done := by
    intro X hP hw hK hc i pins s σ H E I hf st hg
    subst hP hw hK
    obtain ⟨⟨old, he⟩, hit, hne⟩ := st
    obtain ⟨xs, hq, hx⟩ := hg
    obtain ⟨its, rv, p, hz⟩ := I.tuple hq
    obtain ⟨f0, f1, f2, f3, f4, f5⟩ := hf it (by simp)
    have hl := rv.length
    have pt : s.heap.IsTuple a its.toArray := p
    have nai : a ≠ it := by
      obtain ⟨o1, q1, c1, _⟩ := pt
      obtain ⟨o2, q2, c2, _⟩ := hit
      intro z
      rw [z, q2] at q1
      cases q1
      rw [c2] at c1
      exact absurd c1 (by decide)
    have hn : its.toArray[i]? = none := by simp; omega
    have Dr : Draws X.prog X.w X.A.in1 it [it, a] i (fun _ _ => True) (fun j h => j = i ∧ h.IsTupleIter it a i ∧ h.IsTuple a its.toArray) :=
      ⟨fun _ _ st => let ⟨o, ho, _⟩ := st.2.1; ⟨o, ho⟩, fun _ _ _ st hk => ⟨st.1, st.2.1.at fun o e => hk it (by simp) o e, st.2.2.at fun o e => hk a (by simp) o e⟩,
        fun j _ _ _ hj st _ => absurd st.1 (by omega), fun _ _ _ st hE => wpAny_nextOf_tuple_end (by exact I.ok.hd hc) st.2.1 st.2.2 hn hE⟩
    exact wpAny_pyNext_enum_endD Dr he ⟨rfl, hit, pt⟩ fun h' eb => ⟨rfl, I.turned (t' := s.toks) (fun b o hb q => eb b o hb q) f0 f1 f3 f4 f5⟩
  self := fun A i s Q E st h => let ⟨⟨_, he⟩, _⟩ := st; wpAny_pyIter_enum he h
def iEnumT (K : PySem.W.Frag) (ta : TA) : TI := fun σ H R => ta σ H fun vs H1 => ∃ a xs, vs = [.ref a] ∧ SqT K H1 a xs ∧ R (IteT K a) H1
theorem pi_enumT {X : Cx} {e : Expr} {ta : TA} {p pos tpos : Pos} {elts : List Expr} {kk : Nat} (hg : Gl X "enumerate") (hm : X.mg "enumerate" = none) (ha : PA X [e] ta) (hs : starEach [e] X.env = [(false, eval e X.env)]) :
    PI X (.Tuple elts kk tpos) (.Call (.Name "enumerate" p) [e] [] pos) (iEnumT X.K ta) := by
  refine ⟨fun pins s σ H R I h => ?_⟩
  refine Call_ (ld_blt I hg hm boot_enumerate (PyProof.Rows.callWith_type1 (thn (ha.run pos pins s σ H _ I h) fun us s1 ⟨vs, H1, I1, r1, q1⟩ => ?_) hs rfl))
  obtain ⟨a, xs, ex, hq, q⟩ := q1
  subst ex
  cases r1 with
  | cons r rr =>
    cases rr
    cases r
    obtain ⟨its, rv, p', hz⟩ := I1.tuple hq
    refine call_enumT (show s1.heap.IsTuple a its.toArray from p') fun h' he hit hsz hk => wpAny_pyIter_enum he ?_
    have I2 : Inv X pins σ H1 { s1 with heap := h' } := I1.kept (t' := s1.toks) hk
    refine ⟨s1.heap.objs.size + 1, [s1.heap.objs.size + 1, s1.heap.objs.size], _, _, H1, rfl, I2, turn_enumT a (s1.heap.objs.size + 1) s1.heap.objs.size, ⟨⟨.none, he⟩, hit, Nat.succ_ne_self _⟩, fun b hb => ?_, q⟩
    have e' : b = s1.heap.objs.size + 1 ∨ b = s1.heap.objs.size := by simpa using hb
    have hle : s1.heap.objs.size ≤ b := by
      rcases e' with z | z
      · rw [z]; exact Nat.le_add_right _ _
      · rw [z]; exact Nat.le_refl _
    exact I1.fpOk hle (I1.hok.fresh hle)
theorem enumD_get : ∀ (xs : List D) (k i : Nat), (enumD k xs)[i]? = (xs[i]?).map fun d => .tuple [.int ((k + i : Nat) : Int), d]
  | [], _, _ => by simp [enumD]
  | x :: r, k, 0 => by simp [enumD]
  | x :: r, k, i + 1 => by
    simp only [enumD, List.getElem?_cons_succ]
    rw [enumD_get r (k + 1) i]
    have : k + 1 + i = k + (i + 1) := by omega
    rw [this]
theorem enumD_len : ∀ (xs : List D) (k : Nat), (enumD k xs).length = xs.length
  | [], _ => rfl
  | x :: r, k => by simp [enumD, enumD_len r (k + 1)]
theorem RepW.tup {K : PySem.W.Frag} {F H : Hp} {a : Addr} {vs : List V} {ds : List D} (h : SqT K H a vs) (r : Reps K F vs ds) : RepW true K F H (.ref a) (.tuple ds) := by
  unfold RepW
  rw [if_pos rfl]
  exact .inr ⟨a, vs, ds, rfl, rfl, h, r⟩
theorem walk_enumL (K : PySem.W.Frag) (a : Addr) (vs : List V) (ds : List D) : WalkD true K (Ite K a) (enumD 0 ds) (fun F H => SqL K H a vs ∧ Reps K F vs ds) where
  mono := fun e h => ⟨e.same.sqL h.1, h.2.mono e.sub⟩
  go := fun {i d F H} inn h e => by
    rw [enumD_get] at e
    obtain ⟨d', e1, rfl⟩ := Option.map_eq_some_iff.mp e
    obtain ⟨v, hv, r⟩ := h.2.get e1
    refine ⟨⟨vs, v, h.1, hv⟩, fun x H' y => ?_⟩
    obtain ⟨T, x, rfl, hT, rfl, y⟩ := y
    have := y vs h.1
    rw [hv] at this
    cases this
    refine ⟨F, Ext.laid inn hT, RepW.tup (SqT.of upd_same) (.cons ?_ (.cons r .nil))⟩
    rw [Nat.zero_add]; exact .int _
  stop := fun _ h e => ⟨vs, h.1, by rw [h.2.length]; rw [enumD_len] at e; exact e⟩
theorem walk_enumT (K : PySem.W.Frag) (a : Addr) (vs : List V) (ds : List D) : WalkD true K (IteT K a) (enumD 0 ds) (fun F H => SqT K H a vs ∧ Reps K F vs ds) where
  mono := fun e h => ⟨e.same.sqT h.1, h.2.mono e.sub⟩
  go := fun {i d F H} inn h e => by
    rw [enumD_get] at e
    obtain ⟨d', e1, rfl⟩ := Option.map_eq_some_iff.mp e
    obtain ⟨v, hv, r⟩ := h.2.get e1
    refine ⟨⟨vs, v, h.1, hv⟩, fun x H' y => ?_⟩
    obtain ⟨T, x, rfl, hT, rfl, y⟩ := y
    have := y vs h.1
    rw [hv] at this
    cases this
    refine ⟨F, Ext.laid inn hT, RepW.tup (SqT.of upd_same) (.cons ?_ (.cons r .nil))⟩
    rw [Nat.zero_add]; exact .int _
  stop := fun _ h e => ⟨vs, h.1, by rw [h.2.length]; rw [enumD_len] at e; exact e⟩
theorem zipD_get : ∀ (xs ys : List D) (i : Nat), (zipD xs ys)[i]? = (xs[i]?).bind fun x => (ys[i]?).map fun y => .tuple [x, y]
  | [], _, _ => by simp [zipD]
  | _ :: _, [], _ => by simp [zipD]
  | x :: r, y :: q, 0 => by simp [zipD]
  | x :: r, y :: q, i + 1 => by
    simp only [zipD, List.getElem?_cons_succ]
    exact zipD_get r q i
theorem zipD_len : ∀ (xs ys : List D), (zipD xs ys).length = min xs.length ys.length
  | [], _ => by simp [zipD]
  | _ :: _, [] => by simp [zipD]
  | x :: r, y :: q => by simp [zipD, zipD_len r q]
theorem walk_zipP (K : PySem.W.Frag) (a b : Addr) (vs us : List V) (ds es : List D) : WalkD true K (RZ.ItzT K a b) (zipD ds es) (fun F H => (SqT K H a vs ∧ Reps K F vs ds) ∧ SqT K H b us ∧ Reps K F us es) where
  mono := fun e h => ⟨⟨e.same.sqT h.1.1, h.1.2.mono e.sub⟩, e.same.sqT h.2.1, h.2.2.mono e.sub⟩
  go := fun {i d F H} inn h e => by
    rw [zipD_get] at e
    obtain ⟨d1, e1, e⟩ := Option.bind_eq_some_iff.mp e
    obtain ⟨d2, e2, rfl⟩ := Option.map_eq_some_iff.mp e
    obtain ⟨v, hv, r⟩ := h.1.2.get e1
    obtain ⟨u, hu, r'⟩ := h.2.2.get e2
    refine ⟨⟨vs, us, v, u, h.1.1, h.2.1, hv, hu⟩, fun x H' y => ?_⟩
    obtain ⟨T, x, y', rfl, hT, rfl, y1, y2⟩ := y
    have z1 := y1 vs h.1.1
    rw [hv] at z1
    cases z1
    have z2 := y2 us h.2.1
    rw [hu] at z2
    cases z2
    exact ⟨F, Ext.laid inn hT, RepW.tup (SqT.of upd_same) (.cons r (.cons r' .nil))⟩
  stop := fun {i F H} _ h e => ⟨vs, us, h.1.1, h.2.1, by rw [zipD_len] at e; rw [h.1.2.length, h.2.2.length]; omega⟩
end G7

namespace G7
open L2 PyProof.Rows PySem.Spec PySem
variable {nm : Nms} {G : Nat → Option D} {fe : Nat → List D → Res D} {xa : Str → Addr}

theorem esc_l {σ : St} {ρ : Env} {a b : List Nat} {x : Addr} (h : EscA σ ρ a x) : EscA σ ρ (a ++ b) x := h.mono fun j hj => List.mem_append_left _ hj
theorem esc_r {σ : St} {ρ : Env} {a b : List Nat} {x : Addr} (h : EscA σ ρ b x) : EscA σ ρ (a ++ b) x := h.mono fun j hj => List.mem_append_right _ hj
theorem slot_vis {N : List Str} {sc : Scope} {i : Nat} {x : Str} (h : slotOk N sc i x = true) : N[i]? = some x ∧ Vis sc x ∧ (x == ("__debug__" : Str)) = false ∧ (x == ("__classdict__" : Str)) = false := by
  unfold slotOk at h
  simp only [Bool.and_eq_true, Bool.or_eq_true, decide_eq_true_eq, Bool.not_eq_true'] at h
  obtain ⟨⟨⟨h1, h2⟩, h3⟩, h4⟩ := h
  exact ⟨h1, by rcases h2 with (h | h) | h; exact .inl h; exact .inr (.inl h); exact .inr (.inr h), h3, h4⟩
theorem glob_vis {sc : Scope} {x : Str} (h : globOk sc x = true) : sc.names.lookup x = some .globalImplicit ∧ (x == ("__debug__" : Str)) = false := by
  unfold globOk at h
  simp only [Bool.and_eq_true, decide_eq_true_eq, Bool.not_eq_true'] at h
  exact h
theorem star_any {sc : Scope} {N : List Str} : ∀ {es : E} {xs : List Expr}, chkA nm N sc es xs = true → ∀ (pos : Pos) (env : PySem.Env), (backTo pos (starEach xs env)).any (·.1) = false
  | .nil, [], _, _, _ => rfl
  | .cons e es, x :: xs, h, pos, env => by
    unfold chkA at h
    simp only [Bool.and_eq_true] at h
    rw [star_oneA h.1.1]
    show (false || (backTo pos (starEach xs env)).any (·.1)) = false
    rw [star_any h.2, Bool.false_or]
  | .nil, _ :: _, h, _, _ => by unfold chkA at h; cases h
  | .cons _ _, [], h, _, _ => by unfold chkA at h; cases h
  | .var _, _, h, _, _ => by unfold chkA at h; cases h
  | .glob _, _, h, _, _ => by unfold chkA at h; cases h
  | .kI _, _, h, _, _ => by unfold chkA at h; cases h
  | .kS _, _, h, _, _ => by unfold chkA at h; cases h
  | .kB _, _, h, _, _ => by unfold chkA at h; cases h
  | .kN, _, h, _, _ => by unfold chkA at h; cases h
  | .tup _, _, h, _, _ => by unfold chkA at h; cases h
  | .lst _, _, h, _, _ => by unfold chkA at h; cases h
  | .dnew, _, h, _, _ => by unfold chkA at h; cases h
  | .dct1 _ _, _, h, _, _ => by unfold chkA at h; cases h
  | .op _ _ _, _, h, _, _ => by unfold chkA at h; cases h
  | .neg _, _, h, _, _ => by unfold chkA at h; cases h
  | .cmp _ _ _, _, h, _, _ => by unfold chkA at h; cases h
  | .chain _ _ _ _ _, _, h, _, _ => by unfold chkA at h; cases h
  | .and _ _, _, h, _, _ => by unfold chkA at h; cases h
  | .or _ _, _, h, _, _ => by unfold chkA at h; cases h
  | .one _, _, h, _, _ => by unfold chkA at h; cases h
  | .not _, _, h, _, _ => by unfold chkA at h; cases h
  | .ite _ _ _, _, h, _, _ => by unfold chkA at h; cases h
  | .idx _ _, _, h, _, _ => by unfold chkA at h; cases h
  | .slc _ _ _, _, h, _, _ => by unfold chkA at h; cases h
  | .call _ _, _, h, _, _ => by unfold chkA at h; cases h
  | .bt _ _, _, h, _, _ => by unfold chkA at h; cases h
  | .isi _ _, _, h, _, _ => by unfold chkA at h; cases h
  | .lc _ _ _ _, _, h, _, _ => by unfold chkA at h; cases h
  | .rng1 _, _, h, _, _ => by unfold chkA at h; cases h
  | .rng2 _ _, _, h, _, _ => by unfold chkA at h; cases h
  | .enum _, _, h, _, _ => by unfold chkA at h; cases h
  | .zip _ _, _, h, _, _ => by unfold chkA at h; cases h
theorem chkA_star {sc : Scope} {N : List Str} {es : E} {x : Expr} {xs : List Expr} (h : chkA nm N sc es (x :: xs) = true) (pos : Pos) (env : PySem.Env) :
    starEach (x :: xs) env = (false, eval x env) :: starEach xs env ∧ (backTo pos (starEach xs env)).any (·.1) = false := by
  cases es with
  | cons e es =>
    unfold chkA at h
    simp only [Bool.and_eq_true] at h
    exact ⟨star_oneA h.1.1 _ _, star_any h.2 pos env⟩
  | _ => unfold chkA at h; cases h
theorem str_small {x : Str} (h : strSmall x = true) : SOk x := by
  unfold strSmall at h
  simp only [Bool.and_eq_true, decide_eq_true_eq] at h
  exact ⟨Nat.le_trans h.1 (by rw [sizeLine_eq]; decide), h.2⟩
theorem pe_bB {X : Cx} {Wx : WX} {e : E} {pe : Expr} (hx : PE X pe (tX X.K G fe (wOf xa Wx) e)) (hv : ∀ i, e = .var i → PE X pe (tB X.K G fe (wOf xa Wx) e)) : PE X pe (tB X.K G fe (wOf xa Wx) e) := by
  cases e with
  | var i => exact hv i rfl
  | _ => exact hx.weak fun σ H Q => tX_of_tB (by intro i z; cases z)
theorem borrow_var {X : Cx} {Wx : WX} {i : Nat} {x : Str} {pos : Pos} (h : slotOk X.N X.env.scope i x = true) : PE X (.Name x pos) (tB X.K G fe (wOf xa Wx) (.var i)) := by
  obtain ⟨h1, h2, h3, h4⟩ := slot_vis h
  refine (pe_var h1 h2 h3 h4).weak fun σ H Q q => ?_
  obtain ⟨F, ρ, inn, st, q⟩ := q
  have q : After (wOf xa Wx) (EscA σ ρ (escB (.var i))) F H σ (view ρ i) _ := q
  unfold view at q
  cases e : ρ.at i with
  | none => rw [e] at q; exact q.elim
  | some s =>
    rw [e] at q
    obtain ⟨v, hv, sl⟩ := st.ok i s e
    refine ⟨v, hv, q F H (Ext.refl inn) v ?_⟩
    cases s with
    | dat d => exact Rep.b inn.sub sl
    | own d =>
      cases d with
      | list ds => obtain ⟨p, vs, rfl, hp, r, _⟩ := sl; exact ⟨p, vs, rfl, .inl hp, r⟩
      | dict ds => obtain ⟨p, vs, rfl, hp, r, _⟩ := sl; exact ⟨p, vs, rfl, .inl hp, r⟩
      | none => exact sl.elim
      | bool _ => exact sl.elim
      | int _ => exact sl.elim
      | str _ => exact sl.elim
      | tuple _ => exact sl.elim
    | lck d =>
      cases d with
      | dict ds => obtain ⟨p, vs, o, rfl, hp, r, _⟩ := sl; exact ⟨p, vs, rfl, .inr ⟨o, hp⟩, r⟩
      | list _ => exact sl.elim
      | none => exact sl.elim
      | bool _ => exact sl.elim
      | int _ => exact sl.elim
      | str _ => exact sl.elim
      | tuple _ => exact sl.elim
theorem read_var {X : Cx} {Wx : WX} {i : Nat} {x : Str} {pos : Pos} (h : slotOk X.N X.env.scope i x = true) : PE X (.Name x pos) (tX X.K G fe (wOf xa Wx) (.var i)) := by
  obtain ⟨h1, h2, h3, h4⟩ := slot_vis h
  refine (pe_var h1 h2 h3 h4).weak fun σ H Q q => ?_
  obtain ⟨F, ρ, inn, st, q⟩ := q
  have q : After (wOf xa Wx) (EscA σ ρ [i]) F H σ (read ρ i) _ := q
  unfold read at q
  cases e : ρ.at i with
  | none => rw [e] at q; exact q.elim
  | some s =>
    rw [e] at q
    obtain ⟨v, hv, sl⟩ := st.ok i s e
    refine ⟨v, hv, ?_⟩
    cases s with
    | dat d => exact q F H (Ext.refl inn) v (Rep.x sl)
    | own d =>
      cases d with
      | list ds =>
        obtain ⟨p, vs, rfl, hp, r, hF⟩ := sl
        rcases hF with hF | hF
        · exact q _ H ((Ext.refl inn).freeze hF hp rfl (.inr ⟨i, by simp, ⟨_, e⟩, hv⟩)) _ (Rep.x (.lst (.inl upd_same) (r.mono (sub_upd hF))))
        · exact q F H (Ext.refl inn) _ (Rep.x (.lst (.inl hF) r))
      | dict ds =>
        obtain ⟨p, vs, rfl, hp, r, hF⟩ := sl
        rcases hF with hF | hF
        · exact q _ H ((Ext.refl inn).freeze hF hp rfl (.inr ⟨i, by simp, ⟨_, e⟩, hv⟩)) _ (Rep.x (.dct upd_same (r.mono (sub_upd hF))))
        · exact q F H (Ext.refl inn) _ (Rep.x (.dct hF r))
      | none => exact sl.elim
      | bool _ => exact sl.elim
      | int _ => exact sl.elim
      | str _ => exact sl.elim
      | tuple _ => exact sl.elim
    | lck d => exact q.elim
/-- a test of a value -/
theorem tst_plain {X : Cx} {Wx : WX} {e : E} {pe : Expr} (hx : PE X pe (tX X.K G fe (wOf xa Wx) e)) (hv : ∀ i, e ≠ .var i) (he : ∀ whole, isTrue pe X.env whole = (do let v ← whole; standAt pe.pos; holding [v] (truthy v))) : PT X pe (tT X.K G fe (wOf xa Wx) e) := by
  refine (pt_truth hx he).weak fun σ H Q q => ?_
  obtain ⟨F, ρ, inn, st, q⟩ := q
  have e2 : escB e = esc e := by cases e <;> first | rfl | exact absurd rfl (hv _)
  rw [e2] at q
  refine ⟨F, ρ, inn, st, q.map fun d F' H' ex k v r => ⟨truth d, (r.b ex.inn.sub).tru ex.inn.sub fun ds hd => ?_, k⟩⟩
  subst hd
  cases hf : fresh e with
  | false =>
    rw [hf] at r
    have r : Rep X.K F' v (.dict ds) := r
    cases r with
    | dct h rk => exact ⟨_, _, rfl, ex.inn.sub _ _ h, rk.length⟩
  | true =>
    rw [hf] at r
    obtain ⟨p, kvs, rfl, _, _, h, rk⟩ := r
    exact ⟨p, kvs, rfl, h, rk.length⟩
theorem tst_var {X : Cx} {Wx : WX} {i : Nat} {x : Str} {pos : Pos} (h : slotOk X.N X.env.scope i x = true) : PT X (.Name x pos) (tT X.K G fe (wOf xa Wx) (.var i)) := by
  obtain ⟨h1, h2, h3, h4⟩ := slot_vis h
  refine (pt_truth (pe_var h1 h2 h3 h4) (fun _ => rfl)).weak fun σ H Q q => ?_
  obtain ⟨F, ρ, inn, st, q⟩ := q
  have q : After (wOf xa Wx) (EscA σ ρ (escB (.var i))) F H σ (read ρ i) _ := q
  unfold read at q
  cases e : ρ.at i with
  | none => rw [e] at q; exact q.elim
  | some s =>
    rw [e] at q
    obtain ⟨v, hv, sl⟩ := st.ok i s e
    refine ⟨v, hv, ?_⟩
    cases s with
    | dat d =>
      refine ⟨truth d, (Rep.b inn.sub sl).tru inn.sub fun ds hd => ?_, q F H (Ext.refl inn)⟩
      subst hd
      have sl : Rep X.K F v (.dict ds) := sl
      cases sl with
      | dct h rk => exact ⟨_, _, rfl, inn.sub _ _ h, rk.length⟩
    | own d =>
      refine ⟨truth d, ?_, q F H (Ext.refl inn)⟩
      cases d with
      | list ds => obtain ⟨p, vs, rfl, hp, r, _⟩ := sl; exact .inl ⟨vs, SqL.of hp, by cases r <;> rfl⟩
      | dict ds => obtain ⟨p, vs, rfl, hp, r, _⟩ := sl; exact .inr (.inr ⟨vs, hp, by cases r <;> rfl⟩)
      | none => exact sl.elim
      | bool _ => exact sl.elim
      | int _ => exact sl.elim
      | str _ => exact sl.elim
      | tuple _ => exact sl.elim
    | lck d => exact q.elim
theorem ops_eq {o : Op2} {p : Operator} (h : opOk o p = true) : p = opOf o := by
  cases o <;> cases p <;> first | rfl | cases h
theorem fresh_op (o : Op2) (a b : E) : fresh (.op o a b) = frOp o := by cases o <;> rfl
/-- an operator of two operands -/
theorem pe_2 {X : Cx} {Wx : WX} {o : Op2} {a b : E} {x y : Expr} {p : Operator} {pos : Pos} (ho : opOk o p = true) (ha : PE X x (tB X.K G fe (wOf xa Wx) a)) (hb : PE X y (tB X.K G fe (wOf xa Wx) b)) : PE X (.BinOp x p y pos) (tX X.K G fe (wOf xa Wx) (.op o a b)) := by
  rw [ops_eq ho]
  refine (pe_op (op_2D o) ha hb).weak fun σ H Q q => ?_
  obtain ⟨F, ρ, inn, st, q⟩ := q
  rw [fresh_op] at q
  refine ⟨F, ρ, inn, st, (After.bind (A1 := EscA σ ρ (escB a)) (A2 := EscA σ ρ (escB a ++ escB b)) (show After _ _ F H σ ((bor a ρ (evalE G fe a ρ)).bind _) _ from q) (fun _ => esc_l) (fun _ z => z)).map fun d1 F1 H1 e1 q1 v1 r1 => ?_⟩
  refine ⟨F1, ρ, e1.inn, st.ext e1 inn, (After.bind (A1 := EscA σ ρ (escB b)) (A2 := EscA σ ρ (escB a ++ escB b)) (show After _ _ F1 H1 σ ((bor b ρ (evalE G fe b ρ)).bind _) _ from q1) (fun _ => esc_r) (fun _ z => z)).map fun d2 F2 H2 e2 q2 v2 r2 => ?_⟩
  obtain ⟨d, hd, k⟩ := q2.of
  exact ⟨F2, d1, d2, d, e2.inn, r1.mono e2, r2, hd, fun v F' H' e r => k F' H' e.nil v (r.early (e1.same.trans e2.same))⟩
theorem pe_c {X : Cx} (g : Good nm G fe xa Wx X) {o : Cm} {a b : E} {x y : Expr} {p : CmpOp} {pos : Pos} (ho : cmOk o p = true) (hy : plainR y = true) (ha : PE X x (tB X.K G fe (wOf xa Wx) a)) (hb : PE X y (tB X.K G fe (wOf xa Wx) b)) :
    PE X (.Compare x [p] [y] pos) (tX X.K G fe (wOf xa Wx) (.cmp o a b)) ∧ PT X (.Compare x [p] [y] pos) (tT X.K G fe (wOf xa Wx) (.cmp o a b)) := by
  have hp : cmOp o = p := of_decide_eq_true ho
  subst hp
  have nb : behindInMarks (cmOp o) y = false := by cases y <;> first | rfl | cases hy
  have go : ∀ σ H (k : D → Hp → Hp → Prop), (∃ F ρ, Inn F H ∧ StOk X.K F H σ ρ ∧ After (wOf xa Wx) (EscA σ ρ (escB a ++ escB b)) F H σ (evalE G fe (.cmp o a b) ρ) k) → (Q : VK) → (∀ c F' H', k (.bool c) F' H' → Q (.bl c) H') → tOp (rB X.K (cmpD o)) (tB X.K G fe (wOf xa Wx) a) (tB X.K G fe (wOf xa Wx) b) σ H Q := by
    intro σ H k q Q kq
    obtain ⟨F, ρ, inn, st, q⟩ := q
    refine ⟨F, ρ, inn, st, (After.bind (A1 := EscA σ ρ (escB a)) (A2 := EscA σ ρ (escB a ++ escB b)) (show After _ _ F H σ ((bor a ρ (evalE G fe a ρ)).bind _) _ from q) (fun _ => esc_l) (fun _ z => z)).map fun d1 F1 H1 e1 q1 v1 r1 => ?_⟩
    refine ⟨F1, ρ, e1.inn, st.ext e1 inn, (After.bind (A1 := EscA σ ρ (escB b)) (A2 := EscA σ ρ (escB a ++ escB b)) (show After _ _ F1 H1 σ ((bor b ρ (evalE G fe b ρ)).bind _) _ from q1) (fun _ => esc_r) (fun _ z => z)).map fun d2 F2 H2 e2 q2 v2 r2 => ?_⟩
    obtain ⟨d, hd, k⟩ := q2.of
    obtain ⟨c, hc, rfl⟩ := Option.map_eq_some_iff.mp hd
    exact ⟨F2, d1, d2, c, e2.inn, r1.mono e2, r2, hc, kq _ _ _ (k F2 H2 (Ext.refl e2.inn))⟩
  refine ⟨(pe_cmpR (op_cmpD g.hu o) ha hb nb).weak fun σ H Q q => ?_, (pt_cmpR (op_cmpD g.hu o) ha hb nb).weak fun σ H Q q => ?_⟩
  · exact go σ H _ q Q fun c F' H' k => k _ (Rep.x (.bl c))
  · exact go σ H _ q _ fun c F' H' k => ⟨c, rfl, k⟩
theorem pe_ch {X : Cx} {Wx : WX} (g : Good nm G fe xa Wx X) {o1 o2 : Cm} {a b c : E} {x y z : Expr} {p q : CmpOp} {pos : Pos} (h1 : cmOk o1 p = true) (h2 : cmOk o2 q = true) (n1 : p ≠ .In) (n2 : p ≠ .NotIn) (n3 : q ≠ .In) (n4 : q ≠ .NotIn)
    (ha : PE X x (tB X.K G fe (wOf xa Wx) a)) (hb : PE X y (tB X.K G fe (wOf xa Wx) b)) (hc : PE X z (tB X.K G fe (wOf xa Wx) c)) :
    PE X (.Compare x [p, q] [y, z] pos) (tX X.K G fe (wOf xa Wx) (.chain o1 o2 a b c)) ∧ PT X (.Compare x [p, q] [y, z] pos) (tT X.K G fe (wOf xa Wx) (.chain o1 o2 a b c)) := by
  have e1 : cmOp o1 = p := of_decide_eq_true h1
  have e2 : cmOp o2 = q := of_decide_eq_true h2
  subst e1 e2
  have go : ∀ σ H (k : D → Hp → Hp → Prop), (∃ F ρ, Inn F H ∧ StOk X.K F H σ ρ ∧ After (wOf xa Wx) (EscA σ ρ (escB a ++ escB b ++ escB c)) F H σ (evalE G fe (.chain o1 o2 a b c) ρ) k) → (Q : VK) → (∀ c F' H', k (.bool c) F' H' → Q (.bl c) H') →
      tChain (rB X.K (cmpD o1)) (rB X.K (cmpD o2)) (tB X.K G fe (wOf xa Wx) a) (tB X.K G fe (wOf xa Wx) b) (tB X.K G fe (wOf xa Wx) c) σ H Q := by
    intro σ H k q Q kq
    obtain ⟨F, ρ, inn, st, q⟩ := q
    refine ⟨F, ρ, inn, st, (After.bind (A1 := EscA σ ρ (escB a)) (A2 := EscA σ ρ (escB a ++ escB b ++ escB c)) (show After _ _ F H σ ((bor a ρ (evalE G fe a ρ)).bind _) _ from q) (fun _ w => esc_l (esc_l w)) (fun _ z => z)).map fun d1 F1 H1 e1 q1 v1 r1 => ?_⟩
    refine ⟨F1, ρ, e1.inn, st.ext e1 inn, (After.bind (A1 := EscA σ ρ (escB b)) (A2 := EscA σ ρ (escB a ++ escB b ++ escB c)) (show After _ _ F1 H1 σ ((bor b ρ (evalE G fe b ρ)).bind _) _ from q1) (fun _ w => esc_l (esc_r w)) (fun _ z => z)).map fun d2 F2 H2 e2 q2 v2 r2 => ?_⟩
    cases hk : cmpD o1 d1 d2 with
    | none =>
      have q2 : After (wOf xa Wx) _ F2 H2 σ ((Res.of (cmpD o1 d1 d2)).bind _) k := q2
      rw [hk] at q2
      exact q2.elim
    | some c1 =>
      have q2 : After (wOf xa Wx) _ F2 H2 σ ((Res.of (cmpD o1 d1 d2)).bind _) k := q2
      rw [hk] at q2
      refine ⟨F2, d1, d2, c1, e2.inn, r1.mono e2, r2, hk, c1, rfl, ?_⟩
      cases c1 with
      | false =>
        rw [if_neg Bool.false_ne_true]
        exact kq _ _ _ (q2 F2 H2 (Ext.refl e2.inn))
      | true =>
        rw [if_pos rfl]
        refine ⟨F2, ρ, e2.inn, (st.ext e1 inn).ext e2 e1.inn, (After.bind (A1 := EscA σ ρ (escB c)) (A2 := EscA σ ρ (escB a ++ escB b ++ escB c)) (show After _ _ F2 H2 σ ((bor c ρ (evalE G fe c ρ)).bind _) _ from q2) (fun _ w => esc_r w) (fun _ z => z)).map fun d3 F3 H3 e3 q3 v3 r3 => ?_⟩
        obtain ⟨d, hd, k⟩ := q3.of
        obtain ⟨c, hc, rfl⟩ := Option.map_eq_some_iff.mp hd
        exact ⟨F3, d2, d3, c, e3.inn, r2.mono e3, r3, hc, kq _ _ _ (k F3 H3 (Ext.refl e3.inn))⟩
  refine ⟨(pe_chain (op_cmpD g.hu o1) (op_cmpD g.hu o2) ha hb hc (nomark _ n3 n4)).weak fun σ H Q q => ?_, (pt_chain (op_cmpD g.hu o1) (op_cmpD g.hu o2) ha hb hc (nomark _ n3 n4)).weak fun σ H Q q => ?_⟩
  · exact go σ H _ q Q fun c F' H' k => k _ (Rep.x (.bl c))
  · exact go σ H _ q _ fun c F' H' k => ⟨c, rfl, k⟩
end G7

namespace G7
open L2 PyProof.Rows PySem.Spec PySem
variable {nm : Nms} {G : Nat → Option D} {fe : Nat → List D → Res D} {xa : Str → Addr}

/-! ### built-ins by their names -/
theorem bt_names {n : Str} (h : n ∈ bltNames) {X : Cx} {Wx : WX} (g : Good nm G fe xa Wx X) : X.mg n = none := g.free n h
theorem callr_weak {X : Cx} {f : Value} {r r' : List V → Hp → VK → Prop} (h : CallR X f r) (w : ∀ xs H Q, r' xs H Q → r xs H Q) : CallR X f r' := fun pins s σ H xs us Q I rs q => h pins s σ H xs us Q I rs (w xs H Q q)
theorem pe_bt {X : Cx} {Wx : WX} (g : Good nm G fe xa Wx X) {b : Bt} {n : Str} {isB : Bool} (hn : btName b = some (n, isB)) {es : E} {y : Expr} {ys : List Expr} {p pos : Pos} (hg : globOk X.env.scope n = true) (hA : chkA nm X.N X.env.scope es (y :: ys) = true)
    (ha : PA X (y :: ys) (tAB X.K G fe (wOf xa Wx) es)) : PE X (.Call (.Name n p) (y :: ys) [] pos) (tX X.K G fe (wOf xa Wx) (.bt b es)) := by
  obtain ⟨h1, h2⟩ := glob_vis hg
  obtain ⟨s1, s2⟩ := chkA_star hA pos X.env
  have read : ∀ {fr : Bool}, fr = fresh (.bt b es) → ∀ σ H Q, tX X.K G fe (wOf xa Wx) (.bt b es) σ H Q → tCB (rC X.K b fr) (tAB X.K G fe (wOf xa Wx) es) σ H Q := by
    intro fr hf σ H Q q
    obtain ⟨F, ρ, inn, st, q⟩ := q
    refine ⟨F, ρ, inn, st, (After.bind (A1 := EscA σ ρ (escAB es)) (A2 := EscA σ ρ (escAB es)) (show After _ _ F H σ ((evalAB G fe es ρ).bind _) _ from q) (fun _ z => z) (fun _ z => z)).map fun ds F1 H1 e1 q1 vs r1 => ?_⟩
    obtain ⟨d, hd, k⟩ := q1.of
    exact ⟨F1, ds, d, e1.inn, r1, hd, fun v F' H' e r => k F' H' e.nil v (by rw [← hf]; exact r.early e1.same)⟩
  cases b with
  | len => cases hn; exact (pe_callB bt_len h1 (bt_names (by simp [bltNames]) g) PySem.boot_len ha (by decide) h2 s1 s2).weak (read rfl)
  | all => cases hn; exact (pe_callB (bt_all g.calm) h1 (bt_names (by simp [bltNames]) g) (by decide +kernel) ha (by decide) h2 s1 s2).weak (read rfl)
  | any => cases hn; exact (pe_callB (bt_any g.calm) h1 (bt_names (by simp [bltNames]) g) (by decide +kernel) ha (by decide) h2 s1 s2).weak (read rfl)
  | tuple => cases hn; exact (pe_callTy bt_tuple h1 (bt_names (by simp [bltNames]) g) (by decide +kernel) ha (by decide) h2 s1 s2).weak (read rfl)
  | list => cases hn; exact (pe_callTy (bt_list g.calm) h1 (bt_names (by simp [bltNames]) g) (by decide +kernel) ha (by decide) h2 s1 s2).weak (read rfl)
  | sorted => cases hn; exact (pe_callB (bt_sorted g.calm) h1 (bt_names (by simp [bltNames]) g) (by decide +kernel) ha (by decide) h2 s1 s2).weak (read rfl)
  | dict => cases hn; exact (pe_callTy (bt_dict g.calm) h1 (bt_names (by simp [bltNames]) g) (by decide +kernel) ha (by decide) h2 s1 s2).weak (read rfl)
  | str => cases hn; exact (pe_callTy bt_str h1 (bt_names (by simp [bltNames]) g) (by decide +kernel) ha (by decide) h2 s1 s2).weak (read rfl)
  | int => cases hn; exact (pe_callTy bt_int h1 (bt_names (by simp [bltNames]) g) (by decide +kernel) ha (by decide) h2 s1 s2).weak (read rfl)
  | min => cases hn; exact (pe_callB (bt_min g.calm) h1 (bt_names (by simp [bltNames]) g) (by decide +kernel) ha (by decide) h2 s1 s2).weak (read rfl)
  | max => cases hn; exact (pe_callB (bt_max g.calm) h1 (bt_names (by simp [bltNames]) g) (by decide +kernel) ha (by decide) h2 s1 s2).weak (read rfl)
  | _ => cases hn
theorem pe_ty {X : Cx} {Wx : WX} (g : Good nm G fe xa Wx X) {t : Ty} {z : Expr} (h : tyOk t X.env.scope z = true) : PE X z (L2.tC (V.ty t.name)) := by
  cases z with
  | Name x pos =>
    unfold tyOk at h
    simp only [Bool.and_eq_true, decide_eq_true_eq] at h
    obtain ⟨rfl, h⟩ := h
    obtain ⟨h1, h2⟩ := glob_vis h
    cases t with
    | int => exact pe_bltn (v := V.ty "int") h1 (bt_names (by simp [bltNames, Ty.name]) g) (u := .type "int") (by decide +kernel) rfl (by decide) h2
    | str => exact pe_bltn (v := V.ty "str") h1 (bt_names (by simp [bltNames, Ty.name]) g) (u := .type "str") (by decide +kernel) rfl (by decide) h2
    | bool => exact pe_bltn (v := V.ty "bool") h1 (bt_names (by simp [bltNames, Ty.name]) g) (u := .type "bool") (by decide +kernel) rfl (by decide) h2
    | tuple => exact pe_bltn (v := V.ty "tuple") h1 (bt_names (by simp [bltNames, Ty.name]) g) (u := .type "tuple") (by decide +kernel) rfl (by decide) h2
    | list => exact pe_bltn (v := V.ty "list") h1 (bt_names (by simp [bltNames, Ty.name]) g) (u := .type "list") (by decide +kernel) rfl (by decide) h2
  | _ => unfold tyOk at h; cases h
theorem ty_plain {t : Ty} {sc : Scope} {z : Expr} (h : tyOk t sc z = true) : plainR z = true := by
  cases z <;> first | rfl | (unfold tyOk at h; cases h)
theorem pa_tys {X : Cx} {Wx : WX} (g : Good nm G fe xa Wx X) : ∀ {ts : List Ty} {zs : List Expr}, tysOk X.env.scope ts zs = true → PA X zs (fun _ H Q => Q (ts.map fun t => V.ty t.name) H)
  | [], [], _ => pa_nil
  | t :: ts, z :: zs, h => by
    unfold tysOk at h
    simp only [Bool.and_eq_true] at h
    exact (pa_cons (pe_ty g h.1) (pa_tys g h.2) (star_one (ty_plain h.1) _ _)).weak fun σ H Q q => q
  | [], _ :: _, h => by unfold tysOk at h; cases h
  | _ :: _, [], h => by unfold tysOk at h; cases h
theorem pe_isi1 {X : Cx} {Wx : WX} (g : Good nm G fe xa Wx X) {a : E} {t : Ty} {y z : Expr} {p pos : Pos} (hg : globOk X.env.scope "isinstance" = true) (hy : plainR y = true) (ha : PE X y (tB X.K G fe (wOf xa Wx) a)) (hz : tyOk t X.env.scope z = true) :
    PE X (.Call (.Name "isinstance" p) [y, z] [] pos) (tX X.K G fe (wOf xa Wx) (.isi a [t])) := by
  obtain ⟨h1, h2⟩ := glob_vis hg
  have sz := star_one (ty_plain hz) [] X.env
  refine (pe_callB call_isi h1 (bt_names (by simp [bltNames]) g) (by decide +kernel) (pa_cons ha (pa_cons (pe_ty g hz) pa_nil sz) (star_one hy _ _)) (by decide) h2 (star_one hy _ _) (by rw [sz]; rfl)).weak fun σ H Q q => ?_
  obtain ⟨F, ρ, inn, st, q⟩ := q
  refine ⟨F, ρ, inn, st, (After.bind (A1 := EscA σ ρ (escB a)) (A2 := EscA σ ρ (escB a)) (show After _ _ F H σ ((bor a ρ (evalE G fe a ρ)).bind _) _ from q) (fun _ z => z) (fun _ z => z)).map fun d F1 H1 e1 q1 v r => ?_⟩
  refine ⟨v, .ty t.name, .type (tyName d), .type t.name, _, rfl, .ty _, r.tyx e1.inn.sub, kit_tab X.K d t, ?_⟩
  have q1 := q1 F1 H1 (Ext.refl e1.inn) (.bl _) (Rep.x (.bl _))
  simpa using q1
theorem pe_isiN {X : Cx} {Wx : WX} (g : Good nm G fe xa Wx X) {a : E} {ts : List Ty} {y : Expr} {zs : List Expr} {kk : Nat} {p pos tp : Pos} (hg : globOk X.env.scope "isinstance" = true) (hy : plainR y = true) (ha : PE X y (tB X.K G fe (wOf xa Wx) a)) (hz : tysOk X.env.scope ts zs = true) (hl : zs.length ≤ 100) :
    PE X (.Call (.Name "isinstance" p) [y, .Tuple zs kk tp] [] pos) (tX X.K G fe (wOf xa Wx) (.isi a ts)) := by
  obtain ⟨h1, h2⟩ := glob_vis hg
  have len : ∀ {ts : List Ty} {zs : List Expr}, tysOk X.env.scope ts zs = true → ts.length = zs.length := by
    intro ts
    induction ts with
    | nil => intro zs h; cases zs with
      | nil => rfl
      | cons _ _ => unfold tysOk at h; cases h
    | cons t ts ih => intro zs h; cases zs with
      | nil => unfold tysOk at h; cases h
      | cons z zs => unfold tysOk at h; simp only [Bool.and_eq_true] at h; rw [List.length_cons, List.length_cons, ih h.2]
  refine (pe_callB call_isiT h1 (bt_names (by simp [bltNames]) g) (by decide +kernel) (pa_cons ha (pa_cons (pe_tup (pa_tys g hz)) pa_nil (star_one rfl _ _)) (star_one hy _ _)) (by decide) h2 (star_one hy _ _) rfl).weak fun σ H Q q => ?_
  obtain ⟨F, ρ, inn, st, q⟩ := q
  refine ⟨F, ρ, inn, st, (After.bind (A1 := EscA σ ρ (escB a)) (A2 := EscA σ ρ (escB a)) (show After _ _ F H σ ((bor a ρ (evalE G fe a ρ)).bind _) _ from q) (fun _ z => z) (fun _ z => z)).map fun d F1 H1 e1 q1 v r => ?_⟩
  refine ⟨by rw [List.length_map, len hz, sizeLine_eq]; omega, fun tpa htp => ?_⟩
  have e2 : Ext Nil F1 H1 F1 (upd H1 tpa (.tup (ts.map fun t => V.ty t.name))) := Ext.laid e1.inn htp
  refine ⟨v, tpa, ts.map fun t => V.ty t.name, .type (tyName d), ts.map fun t => .type t.name, _, rfl, upd_same, ?_, (r.mono e2).tyx e2.inn.sub, kit_any X.K d ts, q1 F1 _ e2.nil (.bl _) (Rep.x (.bl _))⟩
  clear q1 q hz e2
  induction ts with
  | nil => exact .nil
  | cons t ts ih => exact .cons (.ty _) ih
/-- a call of a def -/
theorem pe_fn {X : Cx} {Wx : WX} (g : Good nm G fe xa Wx X) {f : Nat} (hf : f ∈ nm.fs) {es : E} {y : Expr} {ys : List Expr} {p pos : Pos} (hg : globOk X.env.scope (nm.f f) = true) (hA : chkA nm X.N X.env.scope es (y :: ys) = true)
    (ha : PA X (y :: ys) (tA X.K G fe (wOf xa Wx) es)) : PE X (.Call (.Name (nm.f f) p) (y :: ys) [] pos) (tX X.K G fe (wOf xa Wx) (.call f es)) := by
  obtain ⟨h1, h2⟩ := glob_vis hg
  obtain ⟨s1, s2⟩ := chkA_star hA pos X.env
  obtain ⟨a, fd, ps, k, n, F, l1, l2, hr, hm, hk, hb⟩ := g.fns f hf
  refine (pe_callS (E := WE Wx) F hr h1 hm hk hb (fun σ => passAt g.tk σ) ha h2 s1 s2).weak fun σ H Q q => ?_
  obtain ⟨F0, ρ, inn, st, q⟩ := q
  refine ⟨F0, ρ, inn, st, (After.bind (A1 := EscA σ ρ (escA es)) (A2 := EscA σ ρ (escA es)) (show After _ _ F0 H σ ((evalA G fe es ρ).bind _) _ from q) (fun _ z => z) (fun _ z => z)).map fun ds F1 H1 e1 q1 vs r1 => ?_⟩
  have q1 : After (wOf xa Wx) (EscA σ ρ (escA es)) F1 H1 σ (fe f ds) _ := q1
  cases e : fe f ds with
  | ok d =>
    rw [e] at q1
    refine ⟨by rw [r1.length]; exact l1 ds d e, st.tab.mono e1.same, F1, ds, e1.inn, r1, ?_⟩
    rw [e]
    exact fun v F' H' ex r => q1 F' H' ex.nil v r.x
  | exc c =>
    rw [e] at q1
    refine ⟨by rw [r1.length]; exact l2 ds c e, st.tab.mono e1.same, F1, ds, e1.inn, r1, ?_⟩
    rw [e]
    exact fun F' H' ex => q1 F' H' ex.nil
  | bad => rw [e] at q1; exact q1.elim
theorem pe_jn {X : Cx} {Wx : WX} {s : Str} {b : E} {y : Expr} {ap cp p0 : Pos} {k0 : Nat} (ho : SOk s) (hl : (ap.endLine == cp.line) = true) (hy : plainR y = true) (hb : PE X y (tB X.K G fe (wOf xa Wx) b)) :
    PE X (.Call (.Attribute (.Constant (.str s) k0 p0) "join" ap) [y] [] cp) (tX X.K G fe (wOf xa Wx) (.bt .join (.cons (.kS s) (.cons b .nil)))) := by
  refine (pe_join (pe_str (x := s) (j := k0) (pos := p0)) hb (star_one hy _ _) rfl hl).weak fun σ H Q q => ?_
  obtain ⟨F, ρ, inn, st, q⟩ := q
  have assoc : ∀ (r : Res D), (((Res.ok (PyData.str s)).bind fun d => (r.bind fun d => (Res.ok []).bind fun ds => Res.ok (d :: ds)).bind fun ds => Res.ok (d :: ds)).bind fun ds => Res.of (btD .join ds)) = r.bind fun d2 => Res.of (btD .join [.str s, d2]) := by
    intro r
    cases r <;> rfl
  have q : After (wOf xa Wx) (EscA σ ρ ([] ++ (escB b ++ []))) F H σ (((Res.ok (PyData.str s)).bind fun d => ((bor b ρ (evalE G fe b ρ)).bind fun d => (Res.ok []).bind fun ds => Res.ok (d :: ds)).bind fun ds => Res.ok (d :: ds)).bind fun ds => .of (btD .join ds)) (fun d F' H' => ∀ v, RepX false X.K H F' H' v d → Q v H') := q
  rw [assoc] at q
  refine ⟨⟨s, rfl⟩, F, ρ, inn, st, (After.bind (A1 := EscA σ ρ (escB b)) (A2 := EscA σ ρ ([] ++ (escB b ++ []))) q (fun _ w => esc_r (esc_l w)) (fun _ z => z)).map fun d2 F2 H2 e2 q2 v2 r2 => ?_⟩
  obtain ⟨d, hd, k⟩ := q2.of
  cases d2 with
  | list xs =>
    obtain ⟨p, vs, rfl, hp, hr⟩ := r2
    cases hs : strsD xs with
    | none => have hd : (strsD xs).bind _ = some d := hd; rw [hs] at hd; cases hd
    | some ss =>
      have hd : (strsD xs).bind (fun ss => if (ss.map (·.length)).sum + ss.length * s.length ≤ sizeLine then some (PyData.str (joinS s ss)) else none) = some d := hd
      rw [hs] at hd
      have hd : (if (ss.map (·.length)).sum + ss.length * s.length ≤ sizeLine then some (PyData.str (joinS s ss)) else none) = some d := hd
      split at hd
      · rename_i hz
        cases hd
        obtain ⟨rfl, hso⟩ := hr.strs hs
        refine ⟨s, p, ss, rfl, rfl, .inl (.inl hp), by rw [← sizeLine_eq]; exact hz, ?_⟩
        rw [glued_eq]
        exact k F2 H2 (Ext.refl e2.inn) _ (Rep.x (.str (joinS_ok ho hso hz)))
      · cases hd
  | _ => cases hd
end G7

namespace G7
open L2 PyProof.Rows PySem.Spec PySem SrtO Srt
section
variable {prog : Program} {w : World} {A : Around} {s : Shared} {E : Value → Shared → Prop} {r0 : List Value}
def ltSv (v u : Value) : Bool := ltS (strOf v) (strOf u)
theorem swo_str : Swo ltSv := by
  refine ⟨fun x y h => ?_, fun x y z h1 h2 => ?_⟩
  · have a := of_decide_eq_true (p := (strOf x).cps.toList < (strOf y).cps.toList) h
    exact decide_eq_false (p := (strOf y).cps.toList < (strOf x).cps.toList) (List.lt_asymm a)
  · have a := of_decide_eq_false (p := (strOf y).cps.toList < (strOf x).cps.toList) h1
    have b := of_decide_eq_false (p := (strOf z).cps.toList < (strOf y).cps.toList) h2
    exact decide_eq_false (p := (strOf z).cps.toList < (strOf x).cps.toList) (fun c => by
      have h1 := List.not_lt.mp a
      have h2 := List.not_lt.mp b
      exact absurd c (List.not_lt.mpr (List.le_trans h1 h2)))
theorem str_cmp {ks : List Value} {ss : List Str} (hS : StrsAre ks ss) : Cmp prog w A s oneType' (fun p => p.1 ∈ ks) (lt2 ltSv) := by
  intro p q hm hm'
  obtain ⟨a, t, e⟩ := hS.all _ hm
  obtain ⟨b, u, e'⟩ := hS.all _ hm'
  show wpAny (model prog w) A (keyLt' oneType' p.1 q.1) (fun r s' => s' = s ∧ r = ltSv p.1 q.1) (fun _ _ => False) s
  rw [e, e', keyLt'_oneType]
  exact oneLt_str (Q := fun r s' => s' = s ∧ r = ltSv (.str a t) (.str b u)) ⟨rfl, rfl⟩
/-- the keys of the items, one behind the other -/
theorem key_loop {a kS : Addr} {f : Value} {key : Value → Str} {e1 : Nat} {body : Value → PUnit → Sem (ForInStep PUnit)} {hB : Heap} (hne : a ≠ kS)
    (hb : ∀ x ks e (h1 : Heap) (t1 : Nat), List.length ks < 64 → h1.get? kS = some (seqObj "list" (List.toArray ks) e) → ∀ Q : ForInStep PUnit → Shared → Prop,
      (wpAny (model prog w) A (call f [x]) (fun k s' => ∃ e', s'.heap.get? kS = some (seqObj "list" (List.toArray ks) e') ∧ Q (.yield ⟨⟩) { s' with heap := s'.heap.update kS (Obj.mapSeq (·.push k)) }) (fun _ _ => False) { s with heap := h1, toks := t1 }) →
      wpAny (model prog w) A (body x ⟨⟩) Q E { s with heap := h1, toks := t1 })
    (hcall : ∀ (v : Value) (h1 : Heap) (t1 : Nat) (Q : Value → Shared → Prop), v ∈ r0 → (∀ b o, b ≠ a → b ≠ kS → hB.get? b = some o → h1.get? b = some o) → (∀ h' tk t, (∀ b o, h1.get? b = some o → h'.get? b = some o) → Q (.str (key v) t) { s with heap := h', toks := tk }) → wpAny (model prog w) A (call f [v]) Q (fun _ _ => False) { s with heap := h1, toks := t1 }) :
    ∀ (r ks : List Value) (done : List Str) (e : Nat) (h1 : Heap) (t1 : Nat) (Q : PUnit → Shared → Prop), ks.length + r.length < 64 → (∀ v ∈ r, v ∈ r0) → StrsAre ks done → h1.get? kS = some (seqObj "list" (List.toArray ks) e) → h1.get? a = some (seqObj "list" #[] e1) → (∀ b o, b ≠ a → b ≠ kS → hB.get? b = some o → h1.get? b = some o) →
      (∀ (ks' : List Value) (e' : Nat) (h2 : Heap) (t2 : Nat), ks'.length = ks.length + r.length → StrsAre ks' (done ++ r.map key) → h2.get? kS = some (seqObj "list" (List.toArray ks') e') → h2.get? a = some (seqObj "list" #[] e1) → (∀ b o, b ≠ a → b ≠ kS → hB.get? b = some o → h2.get? b = some o) → Q ⟨⟩ { s with heap := h2, toks := t2 }) →
      wpAny (model prog w) A (forIn r PUnit.unit body) Q E { s with heap := h1, toks := t1 }
  | [], ks, done, e, h1, t1, Q, hl, hm, hS, hk, ha, kp, hq => by
    rw [List.forIn_nil]
    exact wpAny_pure (hq ks e h1 t1 (by simp) (by simpa using hS) hk ha kp)
  | x :: r, ks, done, e, h1, t1, Q, hl, hm, hS, hk, ha, kp, hq => by
    rw [List.length_cons] at hl
    rw [List.forIn_cons]
    refine wpAny_bind (hb x ks e h1 t1 (by omega) hk _ (hcall x h1 t1 _ (hm x List.mem_cons_self) kp fun h' tk t k' => ?_))
    refine ⟨e, k' _ _ hk, ?_⟩
    have ea : (List.toArray ks).push (.str (key x) t) = List.toArray (ks ++ [.str (key x) t]) := by simp
    obtain ⟨c2, hc2⟩ : ∃ c2, (h'.update kS (Obj.mapSeq (·.push (.str (key x) t)))).get? kS = some (seqObj "list" (List.toArray (ks ++ [.str (key x) t])) c2) := ⟨_, by rw [← ea]; exact get?_update_seq (k' _ _ hk) (·.push (.str (key x) t))⟩
    have other : ∀ b o, b ≠ kS → h'.get? b = some o → (h'.update kS (Obj.mapSeq (·.push (.str (key x) t)))).get? b = some o := fun b o hb e => (Heap.get?_update_ne _ _ _ _ hb).trans e
    have hS2 : StrsAre (ks ++ [.str (key x) t]) (done ++ [key x]) := by
      have : ∀ {ks : List Value} {done : List Str}, StrsAre ks done → StrsAre (ks ++ [.str (key x) t]) (done ++ [key x]) := by
        intro ks done hS
        induction hS with
        | nil => exact .cons _ _ .nil
        | cons y u _ ih => exact .cons y u ih
      exact this hS
    refine key_loop hne hb hcall r (ks ++ [.str (key x) t]) (done ++ [key x]) c2 _ tk Q (by rw [List.length_append, List.length_singleton]; omega) (fun v hv => hm v (List.mem_cons_of_mem _ hv)) hS2 hc2 (other _ _ hne (k' _ _ ha)) (fun b o hb1 hb2 q => other _ _ hb2 (k' _ _ (kp b o hb1 hb2 q))) fun ks' e' h2 t2 l1 l2 l3 l4 l5 => hq ks' e' h2 t2 ?_ ?_ l3 l4 l5
    · rw [l1, List.length_append, List.length_singleton, List.length_cons]; omega
    · rw [List.map_cons]
      simpa using l2
/-- list.sort(key=f), the keys texts -/
theorem keyed_sort {a : Addr} {vs : List Value} {n : Nat} {f : Value} {key : Value → Str} {R : PySem.Fin → Shared → Prop} (ho : s.heap.get? a = some (seqObj "list" vs.toArray n)) (h64 : vs.length < 64)
    (hcall : ∀ (v : Value) (h1 : Heap) (t1 : Nat) (Q : Value → Shared → Prop), v ∈ vs → (∀ b o, b ≠ a → s.heap.get? b = some o → h1.get? b = some o) → (∀ h' tk t, (∀ b o, h1.get? b = some o → h'.get? b = some o) → Q (.str (key v) t) { s with heap := h', toks := tk }) → wpAny (model prog w) A (call f [v]) Q (fun _ _ => False) { s with heap := h1, toks := t1 })
    (h : ∀ (out : List Value) (h' : Heap) (tk c : Nat), out.Perm vs → out.Pairwise (fun v u => ltS (key u) (key v) = false) → (∀ b o, b ≠ a → s.heap.get? b = some o → h'.get? b = some o) → h'.get? a = some (seqObj "list" out.toArray c) → R (.done (.ret .none)) { s with heap := h', toks := tk }) :
    wpAny (model prog w) A (ksk_tree a f false) R E s := by
  have ha : a < s.heap.objs.size := Heap.lt_size ho
  obtain ⟨e1, ho1⟩ : ∃ e1, (s.heap.update a (Obj.mapSeq fun _ => (#[] : Array Value))).get? a = some (seqObj "list" #[] e1) := ⟨_, get?_update_seq ho fun _ => #[]⟩
  unfold ksk_tree
  refine wpAny_bind (listItems_at ho rfl ?_)
  refine wpAny_bind (listUpdate_at ho rfl ?_ (by rw [List.size_toArray, sizeLine_eq]; omega) (Nat.zero_le _))
  refine wpAny_bind (seqEpoch_at ho1 rfl ?_)
  refine wpAny_bind (wpAny_newTuple ?_ (by show vs.length ≤ _; rw [sizeLine_eq]; omega))
  refine wpAny_bind (wpAny_newList ?_ (Nat.zero_le _))
  refine wpAny_holding ?_
  have hkS : ((s.heap.update a (Obj.mapSeq fun _ => (#[] : Array Value))).push (seqObj "tuple" vs.toArray 0)).objs.size = s.heap.objs.size + 1 := by rw [size_push', Heap.size_update]
  generalize hkk : ((s.heap.update a (Obj.mapSeq fun _ => (#[] : Array Value))).push (seqObj "tuple" vs.toArray 0)).objs.size = kS at hkS
  have hne : a ≠ kS := Nat.ne_of_lt (by rw [hkS]; exact Nat.lt_succ_of_lt ha)
  have hk0 : (((s.heap.update a (Obj.mapSeq fun _ => (#[] : Array Value))).push (seqObj "tuple" vs.toArray 0)).push (seqObj "list" #[] 0)).get? kS = some (seqObj "list" #[] 0) := by
    rw [← hkk]; exact Heap.get?_push_size _ rfl
  have ho6 : (((s.heap.update a (Obj.mapSeq fun _ => (#[] : Array Value))).push (seqObj "tuple" vs.toArray 0)).push (seqObj "list" #[] 0)).get? a = some (seqObj "list" #[] e1) :=
    Heap.get?_push_of_some _ (Heap.get?_push_of_some _ ho1)
  have keep : ∀ b o, b ≠ a → s.heap.get? b = some o → b ≠ kS ∧ (((s.heap.update a (Obj.mapSeq fun _ => (#[] : Array Value))).push (seqObj "tuple" vs.toArray 0)).push (seqObj "list" #[] 0)).get? b = some o := fun b o hb e =>
    ⟨Nat.ne_of_lt (by rw [hkS]; exact Nat.lt_succ_of_lt (Heap.lt_size e)), Heap.get?_push_of_some _ (Heap.get?_push_of_some _ ((Heap.get?_update_ne _ _ _ _ hb).trans e))⟩
  generalize hH : (((s.heap.update a (Obj.mapSeq fun _ => (#[] : Array Value))).push (seqObj "tuple" vs.toArray 0)).push (seqObj "list" #[] 0)) = hB at hk0 ho6 keep
  show wpAny (model prog w) A (ksk_rest a f false vs.toArray e1 (.ref kS)) R E { s with heap := hB }
  unfold ksk_rest
  refine wpAny_bind (wpAny_rule ?_)
  first
    | rw [List.forIn_toArray]
    | (rw [← Array.forIn_toList]; simp only [List.toList_toArray])
    | rw [← Array.forIn_toList]
  refine wpAny_bind (key_loop (s := s) (a := a) (kS := kS) (f := f) (key := key) (e1 := e1) (hB := hB) (r0 := vs) hne (fun x ks e h1 t1 hz hk Q hx => ?_) (fun v h1 t1 Q hv kp hq => hcall v h1 t1 Q hv (fun b o hb e => kp b o hb (keep b o hb e).1 (keep b o hb e).2) hq) vs [] [] 0 hB s.toks _ (by simpa using h64) (fun v hv => hv) .nil hk0 ho6 (fun b o _ _ q => q) fun ks' e' h2 t2 l1 l2 l3 l4 l5 => ?_)
  · refine wpAny_bind (wpAny_attempt (wpAny_mono hx (fun k s'' hk => ?_) fun _ _ hF => hF.elim))
    obtain ⟨e'', hk2, q⟩ := hk
    try dsimp only
    refine wpAny_bind (listUpdate_at hk2 rfl ?_ (by rw [List.size_toArray, sizeLine_eq]; omega) (Nat.le_trans (Nat.le_of_eq (Array.size_push ..)) (by rw [List.size_toArray, sizeLine_eq]; omega)))
    exact wpAny_pure q
  · try dsimp only
    refine wpAny_bind (listItems_at l3 rfl ?_)
    have hS : StrsAre ks' (vs.map key) := by simpa using l2
    have hlen : ks'.length = vs.length := by simpa using l1
    have hpz : ((List.toArray ks').zip vs.toArray).toList = ks'.zip vs := ksk_zip _ _
    have tail : ∀ st' : SortSt, Srtd (lt2 ltSv) (arrOf st').toList → (arrOf st').toList.Perm (ks'.zip vs) → failedOf st' = none → wpAny (model prog w) A (ksk_tail a false e1 (.ref kS) st') R E { s with heap := h2, toks := t2 } := by
      intro st' hs hp hf
      have kk : ∀ p ∈ ks'.zip vs, strOf p.1 = key p.2 := by
        have : ∀ (ks vs : List Value), ks.map strOf = vs.map key → ∀ p ∈ ks.zip vs, strOf p.1 = key p.2 := by
          intro ks
          induction ks with
          | nil => intro vs _ p hp; cases hp
          | cons k ks ih =>
            intro vs hm p hp
            cases vs with
            | nil => cases hp
            | cons v vs =>
              rw [List.map_cons, List.map_cons] at hm
              injection hm with h1 h2
              rcases List.mem_cons.mp hp with rfl | hp
              · exact h1
              · exact ih vs h2 p hp
        exact this ks' vs hS.strs
      obtain ⟨out, hout⟩ : ∃ out : List Value, out = (arrOf st').toList.map (·.2) := ⟨_, rfl⟩
      have e2 : (arrOf st').map (·.2) = List.toArray out := by
        apply Array.toList_inj.mp
        rw [Array.toList_map, hout]
      have hperm : out.Perm vs := by
        rw [hout]
        have := hp.map (·.2)
        rwa [List.map_snd_zip (by omega)] at this
      have hsrt : out.Pairwise (fun v u => ltS (key u) (key v) = false) := by
        rw [hout]
        refine List.pairwise_map.mpr (List.Pairwise.imp_of_mem (fun {p q} hp1 hq1 hl => ?_) hs)
        rw [← kk p (hp.mem_iff.mp hp1), ← kk q (hp.mem_iff.mp hq1)]
        exact hl
      have hol : out.length = vs.length := hperm.length_eq
      obtain ⟨ck, hck⟩ : ∃ ck, (h2.update kS (Obj.mapSeq fun _ => (#[] : Array Value))).get? kS = some (seqObj "list" #[] ck) := ⟨_, get?_update_seq l3 fun _ => #[]⟩
      have na : (h2.update kS (Obj.mapSeq fun _ => (#[] : Array Value))).get? a = some (seqObj "list" #[] e1) := (Heap.get?_update_ne _ _ _ _ hne).trans l4
      obtain ⟨c2, hc2⟩ : ∃ c2, ((h2.update kS (Obj.mapSeq fun _ => (#[] : Array Value))).update a (Obj.mapSeq fun _ => List.toArray out)).get? a = some (seqObj "list" (List.toArray out) c2) := ⟨_, get?_update_seq na fun _ => List.toArray out⟩
      unfold ksk_tail
      try dsimp only
      rw [e2]
      refine wpAny_bind (listUpdate_at l3 rfl ?_ (by rw [List.size_toArray, sizeLine_eq]; omega) (Nat.zero_le _))
      refine wpAny_bind (wpAny_letGo ?_)
      refine wpAny_bind (seqEpoch_at na rfl ?_)
      refine wpAny_bind (listUpdate_at na rfl ?_ (Nat.zero_le _) (by show (List.toArray out).size ≤ _; rw [List.size_toArray, sizeLine_eq]; omega))
      rw [hf]
      simp only [bne_self_eq_false, Bool.false_eq_true, if_false]
      refine wpAny_pure (h out _ t2 c2 hperm hsrt (fun b o hb e => ?_) hc2)
      have k := keep b o hb e
      exact (Heap.get?_update_ne _ _ _ _ hb).trans ((Heap.get?_update_ne _ _ _ _ k.1).trans (l5 b o hb k.1 k.2))
    unfold ksk_end
    try dsimp only
    by_cases h2' : vs.toArray.size < 2
    · rw [if_pos h2', if_pos h2']
      refine wpAny_bind (wpAny_pure ?_)
      rw [StateT.run_pure]
      refine wpAny_bind (wpAny_pure ?_)
      try dsimp only
      refine tail _ ?_ ?_ rfl
      · show Srtd (lt2 ltSv) ((List.toArray ks').zip vs.toArray).toList
        rw [hpz]
        have hl2 : (ks'.zip vs).length < 2 := by rw [List.length_zip]; rw [List.size_toArray] at h2'; omega
        match hz : ks'.zip vs, hl2 with
        | [], _ => exact List.Pairwise.nil
        | [v], _ => exact List.pairwise_singleton _ _
        | _ :: _ :: l, h => exact absurd h (by rw [List.length_cons, List.length_cons]; omega)
      · show ((List.toArray ks').zip vs.toArray).toList.Perm (ks'.zip vs)
        rw [hpz]
    · rw [if_neg h2', if_neg h2']
      have hkind : keyKind' (List.toArray ks') = pure oneType' := by
        rw [List.size_toArray] at h2'
        match ks', hS, hlen with
        | [], _, hl => exact absurd hl (by simp; omega)
        | [v], _, hl => exact absurd hl (by simp; omega)
        | v1 :: v2 :: rest, hS, _ => exact keyKind_strs hS
      rw [hkind]
      refine wpAny_bind (wpAny_pure ?_)
      have hall : AllL (fun p : Keyed => p.1 ∈ ks') ((List.toArray ks').zip vs.toArray).toList := fun p hm => by
        rw [hpz] at hm
        exact (List.of_mem_zip hm).1
      refine wpAny_bind (wpAny_mono (wpS_sortO (st0 := SortSt.mk' oneType' ((List.toArray ks').zip vs.toArray) #[] 7 none)
        (Q := fun _ st' => Srtd (lt2 ltSv) (arrOf st').toList ∧ Stb (lt2 ltSv) (arrOf st').toList ((List.toArray ks').zip vs.toArray).toList ∧ failedOf st' = none) (swo2 swo_str) (str_cmp hS) rfl hall rfl rfl fun st' a1 a2 a3 => ⟨a1, a2, a3⟩) ?_ fun _ _ e => e)
      rintro ⟨⟨⟩, st'⟩ s' ⟨rfl, hp1, hp2, hf⟩
      try dsimp only
      refine tail st' hp1 ?_ hf
      rw [← hpz]
      exact hp2.perm
end
end G7

namespace G7
open L2 PyProof.Rows PySem.Spec PySem
variable {nm : Nms} {G : Nat → Option D} {fe : Nat → List D → Res D} {xa : Str → Addr}
/-! ### the lambda is made, and kept for the sort -/
def LamO (f c' : Addr) : HO := .ext fun h => ∃ (q : Str) (params : Arguments) (body : Expr) (scope : Scope) (cl : List (Str × Addr)) (pm ctv : Value), LamT params body scope ∧ h.get? f = some (PySem.W.kla_obj "<lambda>" q params body scope cl pm c' ctv)
theorem lamO_new {P : Program} {w : World} {H : Hp} {h : Heap} {f c' : Addr} {q : Str} {params : Arguments} {body : Expr} {scope : Scope} {cl : List (Str × Addr)} {pm ctv : Value} (L : LamT params body scope) (e : h.get? f = some (PySem.W.kla_obj "<lambda>" q params body scope cl pm c' ctv)) : ObjOk P w H h f (LamO f c') :=
  ⟨⟨q, params, body, scope, cl, pm, ctv, L, e⟩, ⟨_, e⟩, fun h1 h2 ⟨q, params, body, scope, cl, pm, ctv, L, e⟩ k => ⟨q, params, body, scope, cl, pm, ctv, L, k _ e⟩⟩
theorem lamO_ne {f c' : Addr} (ps : Array Value) : LamO f c' ≠ .tbl ps := fun z => by unfold LamO at z; cases z
theorem Ext.keeps {A : Addr → Prop} {F H H1 : Hp} (i : Inn F H) (k : Keeps H H1) : Ext A F H F H1 := ⟨Sub.refl F, k, fun _ _ q => .inl q, ⟨fun a o q => k.keep a o (i.sub a o q) (i.plain a o q), i.plain⟩⟩
def tLamE (P : Addr) : TE := fun σ H Q => TabO H P ∧ ∀ f c' q H1, Keeps H H1 → (∀ b, H1 b = none → H b = none) → H1 f = some (LamO f c') → H1 c' = some (LamX.CodeO c' q) → Q (.ref f) H1
theorem tab_none {H : Hp} {P b : Addr} (t : TabO H P) (e : H b = none) : b ≠ P := fun z => by
  obtain ⟨ps, hP, _⟩ := t
  rw [z, hP] at e; cases e
theorem tab_in {l : List Value} {pos p' : Pos} {c cv : Value} (h : TriplesOk l) (hc : codeAmong p' (l ++ [rawInt pos.line, rawInt pos.col, c]) = some cv) : codeAmong p' l = some cv ∨ cv = c := LamX.among_app l h hc
theorem pe_lam {X : Cx} {c P : Addr} {params : Arguments} {body : Expr} {scope : Scope} {pos : Pos} (L : LamT params body scope) (hcode : X.env.code = .ref c) (TB : LamX.TabB X.base X.mg c P) : PE X (.Lambda params body scope pos) (tLamE P) := by
  refine ⟨fun pins s σ H Q I h => ?_⟩
  obtain ⟨T, h⟩ := h
  have hdef : defaultsOf params X.env = ([], []) := by
    obtain ⟨j, p1, p2, p3, pa, rfl, rfl, hx⟩ := L.text
    rfl
  refine PySem.W.kla_eval hdef ?_
  have bP : s.heap.BuiltinsAt X.mg P := TB.bm.keeps I.bk
  have hfree : ∀ y ∈ scope.names, y.2 = .free → ∃ c, X.env.cells.lookup y.1 = some c := fun y hy e => ((L.own y hy).2 e).elim
  obtain ⟨ps, hP, ht, ha⟩ := id T
  have hP' : s.heap.get? P = some { cls := .none, data := .fields ps } := I.hok P _ hP
  cases hc : codeAmong pos ps.toList with
  | none =>
    refine PySem.W.kla_makeFunction (mg := X.mg) (c := c) (P := P) (ps := ps) (closure_ok hfree) I.ok.glob (I.mod.glob.keeps I.bk) hcode (TB.code.keeps I.bk) hP' ht hc TB.gP bP fun c' ctv h' tk hx hge hlt hrec htb => ?_
    obtain ⟨c2, oc, vs, t, e2, hoc, hd, hv⟩ := hrec
    cases e2
    have nC : H c' = none := I.hok.fresh hge
    have I1 := LamX.inv_table (q := X.env.qual ++ "<lambda>") (t' := tk) (more := #[rawInt pos.line, rawInt pos.col, .ref c']) (h' := h') I hP (fun b o hb e => hx b o hb e) htb hge ⟨oc, vs, t, hoc, hd, hv⟩
    have nF : upd (upd H P (.tbl (ps ++ #[rawInt pos.line, rawInt pos.col, .ref c']))) c' (LamX.CodeO c' (X.env.qual ++ "<lambda>")) h'.objs.size = none := I1.hok.fresh (Nat.le_refl _)
    have I2 := I1.laid (a := h'.objs.size) (t' := tk) (h' := h'.push (PySem.W.kla_obj "<lambda>" (X.env.qual ++ "<lambda>") params body scope (cloFrom X.env.cells scope.names []) ((X.mg "__name__").getD .none) c' ctv)) (fun b o e => Heap.get?_push_of_some _ e) (Nat.le_refl _) (lamO_new L (Heap.get?_push_size _ rfl))
    generalize hHH : upd (upd H P (.tbl (ps ++ #[rawInt pos.line, rawInt pos.col, .ref c']))) c' (LamX.CodeO c' (X.env.qual ++ "<lambda>")) = H1 at *
    have nPc : P ≠ c' := ne_of_none hP nC
    have at1 : ∀ b o, H b = some o → isTbl o = false → H1 b = some o := fun b o e n => by
      rw [← hHH, upd_ne (ne_of_none e nC), upd_ne (fun z => by rw [z, hP] at e; cases e; cases n)]
      exact e
    have hc1 : H1 c' = some (LamX.CodeO c' (X.env.qual ++ "<lambda>")) := by rw [← hHH, upd_same]
    have hP1 : H1 P = some (.tbl (ps ++ #[rawInt pos.line, rawInt pos.col, .ref c'])) := by rw [← hHH, upd_ne nPc, upd_same]
    have k1 : Keeps H H1 := by
      refine ⟨at1, fun a qs e => ?_, fun P' T' => ?_⟩
      · by_cases hb : a = P
        · subst hb
          rw [hP] at e
          cases e
          exact ⟨_, hP1⟩
        · exact ⟨#[], by rw [← hHH, upd_ne (ne_of_none e nC), upd_ne hb, e]; simp⟩
      · by_cases hb : P' = P
        · subst hb
          have eL : (ps ++ #[rawInt pos.line, rawInt pos.col, .ref c']).toList = ps.toList ++ [rawInt pos.line, rawInt pos.col, .ref c'] := by simp
          refine ⟨_, hP1, by rw [eL]; exact PySem.TriplesOk_snoc _ _ _ _ ht, fun p' cv hcv => ?_⟩
          rw [eL] at hcv
          rcases tab_in ht hcv with z | z
          · obtain ⟨c0, q, e1, e2⟩ := ha p' cv z
            exact ⟨c0, q, e1, at1 _ _ e2 rfl⟩
          · exact ⟨c', _, z, hc1⟩
        · refine T'.mono (fun qs e => ?_) fun c0 q e => at1 _ _ e rfl
          rw [← hHH, upd_ne (ne_of_none e nC), upd_ne hb]
          exact e
    refine ⟨.ref h'.objs.size, _, I2, rfl, h h'.objs.size c' _ _ (k1.trans (Keeps.laid nF)) (fun b e => ?_) upd_same (by rw [upd_ne (ne_of_none hc1 nF)]; exact hc1)⟩
    exact k1.free (by
      by_cases hb : b = h'.objs.size
      · subst hb; rw [upd_same] at e; cases e
      · rwa [upd_ne hb] at e)
  | some cv =>
    obtain ⟨c', q, e, hco⟩ := ha pos cv hc
    subst e
    refine PySem.W.kla_makeFunctionHit (mg := X.mg) (c := c) (P := P) (ps := ps) (closure_ok hfree) I.ok.glob (I.mod.glob.keeps I.bk) hcode (TB.code.keeps I.bk) hP' ht hc bP fun ctv h' tk hx hsz => ?_
    have nF : H h'.objs.size = none := I.hok.fresh hsz
    have I2 := I.laid (a := h'.objs.size) (t' := tk) (h' := h'.push (PySem.W.kla_obj "<lambda>" (X.env.qual ++ "<lambda>") params body scope (cloFrom X.env.cells scope.names []) ((X.mg "__name__").getD .none) c' ctv)) (fun b o e => Heap.get?_push_of_some _ (hx b o e)) hsz (lamO_new L (Heap.get?_push_size _ rfl))
    refine ⟨.ref h'.objs.size, _, I2, rfl, h h'.objs.size c' q _ (Keeps.laid nF) (fun b e => ?_) upd_same (by rw [upd_ne (ne_of_none hco nF)]; exact hco)⟩
    by_cases hb : b = h'.objs.size
    · subst hb; rw [upd_same] at e; cases e
    · rwa [upd_ne hb] at e
end G7

namespace G7
open L2 PyProof.Rows PySem.Spec PySem
variable {nm : Nms} {G : Nat → Option D} {fe : Nat → List D → Res D} {xa : Str → Addr}
/-! ### sorted(xs, key=lambda pair: pair[0]) -/
section
variable {X : Cx}
def rSkey (K : PySem.W.Frag) : List V → List V → Hp → VK → Prop := fun xs zs H Q => ∃ (l f c' : Addr) (q : Str) (as : List Addr) (key : Addr → Str), xs = [V.ref l] ∧ zs = [V.ref f] ∧ H f = some (LamO f c') ∧ H c' = some (LamX.CodeO c' q) ∧ SqL K H l (as.map V.ref) ∧ (∀ a ∈ as, Fst K H a (key a)) ∧ as.length < 64 ∧
  ∀ (bs : List Addr) (p : Addr), bs.Perm as → bs.Pairwise (fun v u => ltS (key u) (key v) = false) → H p = none → Q (.ref p) (upd H p (.lst (bs.map V.ref)))
theorem cr_skey (hd : X.A.depth < recursionLimit) : CallRK X (.builtin "sorted") [Str.ofString "key"] (rSkey X.K) := by
  intro pins s σ H xs zs us ws Q I rx rz h
  obtain ⟨l, f, c', q, as, key, rfl, rfl, hf, hc, hl, hk, h64, hq⟩ := h
  rw [Vals.ref1 rx, Vals.ref1 rz]
  obtain ⟨its, rv, pl, hz⟩ := I.list hl
  have e1 := nts_of rv
  subst e1
  obtain ⟨⟨qn, params, body, scope, cl, pm, ctv, L, hfo⟩, _, _⟩ := I.hok f _ hf
  obtain ⟨⟨oc, vs, t, hoc, hdc, hvc⟩, _, _⟩ := I.hok c' _ hc
  have hlen : (as.map Value.ref).length < 64 := by rw [List.length_map]; exact h64
  have hsl : (as.map Value.ref).length ≤ sizeLine := by rw [sizeLine_eq]; omega
  show wpAny _ _ (call (.builtin "sorted") [.ref l] [(Str.ofString "key", .ref f)]) _ _ _
  refine call_function_entry_kw kind_sorted plain_sorted entry_sorted (ksk_s1 _ _) ?_
  unfold Builtin.«sorted»
  refine wpAny_bind (m := checkCount "sorted" 1 1 _) (wpAny_pure ?_)
  refine wpAny_bind (collect_list pl.isList ?_ hsl)
  refine wpAny_bind (wpAny_newList ?_ hsl)
  have hsz : ((s.heap.push (seqObj "list" #[] 0)).update s.heap.objs.size (Obj.mapSeq (· ++ (as.map Value.ref).toArray))).objs.size = s.heap.objs.size + 1 := by
    rw [Heap.size_update, size_push']
  have hoL : (((s.heap.push (seqObj "list" #[] 0)).update s.heap.objs.size (Obj.mapSeq (· ++ (as.map Value.ref).toArray))).push (seqObj "list" (as.map Value.ref).toArray 0)).get? (s.heap.objs.size + 1) = some (seqObj "list" (as.map Value.ref).toArray 0) := by
    rw [← hsz]; exact Heap.get?_push_size _ rfl
  have keep : ∀ b o, s.heap.get? b = some o → b ≠ s.heap.objs.size + 1 ∧ (((s.heap.push (seqObj "list" #[] 0)).update s.heap.objs.size (Obj.mapSeq (· ++ (as.map Value.ref).toArray))).push (seqObj "list" (as.map Value.ref).toArray 0)).get? b = some o := fun b o q => by
    have hlt : b < s.heap.objs.size := Heap.lt_size q
    refine ⟨Nat.ne_of_lt (Nat.lt_succ_of_lt hlt), Heap.get?_push_of_some _ ?_⟩
    rw [Heap.get?_update_ne _ _ _ _ (Nat.ne_of_lt hlt)]
    exact Heap.get?_push_of_some _ q
  show wpAny _ _ _ _ _ { s with heap := ((s.heap.push (seqObj "list" #[] 0)).update s.heap.objs.size (Obj.mapSeq (· ++ (as.map Value.ref).toArray))).push (seqObj "list" (as.map Value.ref).toArray 0) }
  rw [hsz]
  generalize hB : ((s.heap.push (seqObj "list" #[] 0)).update s.heap.objs.size (Obj.mapSeq (· ++ (as.map Value.ref).toArray))).push (seqObj "list" (as.map Value.ref).toArray 0) = h1 at *
  refine wpAny_bind (wpAny_holding (wpAny_call_entry_kw slot_list_sort ⟨_, hoL, rfl⟩ entry_list_sort ?_ (ksk_l1 _ _)))
  rw [ksk_t1]
  have noL : s.heap.get? (s.heap.objs.size + 1) = none := Heap.get?_none_of_le (Nat.le_succ _)
  refine keyed_sort (s := { s with heap := h1 }) (key := fun v => match v with | .ref a => key a | _ => Str.empty) hoL hlen (fun v h2 t1 Q' hv kp hq' => ?_) fun out h' tk c hperm hsrt kp hout => ⟨_, rfl, ?_⟩
  · obtain ⟨a, ha, rfl⟩ := List.mem_map.mp hv
    obtain ⟨vs1, hst⟩ := hk a ha
    obtain ⟨its1, rv1, pl1, _⟩ := I.tuple hst
    have up : ∀ b o, s.heap.get? b = some o → h2.get? b = some o := fun b o e => kp b o (keep b o e).1 (keep b o e).2
    cases rv1 with
    | @cons x u xs1 us1 r1 _ =>
      obtain ⟨tt, rfl⟩ := r1
      obtain ⟨oT, hoT, rT⟩ := pl1
      exact lam_call (s := { s with heap := h2, toks := t1 }) L hd (up _ _ hfo) ⟨c', oc, vs, t, rfl, up _ _ hoc, hdc, hvc⟩ (I.nolimit.keeps up) ⟨oT, up _ _ hoT, rT⟩ (by simp) fun h3 tk3 k3 => hq' h3 tk3 tt k3
  · refine wpAny_pure ⟨_, rfl, ?_⟩
    have ref : ∀ v ∈ out, ∃ a, v = Value.ref a := fun v hv => by
      obtain ⟨a, _, e⟩ := List.mem_map.mp (hperm.mem_iff.mp hv)
      exact ⟨a, e.symm⟩
    have eo := ref_map ref
    have hpm : (out.map adO).Perm as := by
      have := hperm.map adO
      rwa [ad_map] at this
    have hst : (out.map adO).Pairwise (fun v u => ltS (key u) (key v) = false) := by
      rw [List.pairwise_map]
      refine List.Pairwise.imp_of_mem (fun {v u} hv hu z => ?_) hsrt
      obtain ⟨a, rfl⟩ := ref v hv
      obtain ⟨b, rfl⟩ := ref u hu
      exact z
    have hn : H (s.heap.objs.size + 1) = none := I.hok.fresh (Nat.le_succ _)
    have k : ∀ b o, s.heap.get? b = some o → h'.get? b = some o := fun b o e => kp b o (keep b o e).1 (keep b o e).2
    refine ⟨.ref (s.heap.objs.size + 1), upd H (s.heap.objs.size + 1) (.lst ((out.map adO).map V.ref)), I.laid (t' := tk) k (Nat.le_succ _) ?_, rfl, hq _ _ hpm hst hn⟩
    refine ⟨by rw [List.length_map, hpm.length_eq, sizeLine_eq]; omega, out, c, ?_, hout⟩
    have := of_nts (out.map adO)
    rwa [← eo] at this
def rSkeyP (K : PySem.W.Frag) : List V → List V → Hp → VK → Prop := fun xs zs H Q => ∃ (l f c' : Addr) (q : Str) (as : List (Addr × Str)), xs = [V.ref l] ∧ zs = [V.ref f] ∧ H f = some (LamO f c') ∧ H c' = some (LamX.CodeO c' q) ∧ SqL K H l (as.map fun p => V.ref p.1) ∧ (∀ p ∈ as, Fst K H p.1 p.2) ∧ as.length < 64 ∧
  ∀ (bs : List (Addr × Str)) (p : Addr), bs.Perm as → (bs.map (·.2)).Pairwise LeS → H p = none → Q (.ref p) (upd H p (.lst (bs.map fun p => V.ref p.1)))
theorem cr_skeyP (hd : X.A.depth < recursionLimit) : CallRK X (.builtin "sorted") [Str.ofString "key"] (rSkeyP X.K) := by
  intro pins s σ H xs zs us ws Q I rx rz h
  obtain ⟨l, f, c', q, as, rfl, rfl, hf, hc, hl, hk, h64, hq⟩ := h
  have one : ∀ {t : Addr} {k k' : Str}, Fst X.K H t k → Fst X.K H t k' → k = k' := by
    rintro t k k' ⟨u1, h1⟩ ⟨u2, h2⟩
    obtain ⟨i1, r1, p1, _⟩ := I.tuple h1
    obtain ⟨i2, r2, p2, _⟩ := I.tuple h2
    obtain ⟨o1, a1, b1, n1, c1⟩ := p1
    obtain ⟨o2, a2, b2, n2, c2⟩ := p2
    rw [a1] at a2
    cases a2
    rw [c1] at c2
    injection c2 with e _
    have e : i1 = i2 := by simpa using congrArg Array.toList e
    subst e
    cases r1 with
    | cons x1 _ =>
      cases r2 with
      | cons x2 _ =>
        obtain ⟨t1, e1⟩ := x1
        obtain ⟨t2, e2⟩ := x2
        rw [e1] at e2
        cases e2
        rfl
  have ke : ∀ p ∈ as, (as.lookup p.1).getD Str.empty = p.2 := by
    intro p hp
    obtain ⟨k, hk', hm⟩ := look_some hp
    rw [hk']
    exact one (hk _ hm) (hk p hp)
  have back : (as.map (·.1)).map (fun a => (a, (as.lookup a).getD Str.empty)) = as := by
    rw [List.map_map]
    conv => rhs; rw [← List.map_id as]
    refine List.map_congr_left fun p hp => ?_
    show (p.1, (as.lookup p.1).getD Str.empty) = p
    rw [ke p hp]
  refine cr_skey hd pins s σ H _ _ us ws Q I rx rz ⟨l, f, c', q, as.map (·.1), fun a => (as.lookup a).getD Str.empty, rfl, rfl, hf, hc, by rw [List.map_map]; exact hl, fun a ha => ?_, by rw [List.length_map]; exact h64, fun bs p hp hs hn => ?_⟩
  · obtain ⟨p, hp, rfl⟩ := List.mem_map.mp ha
    show Fst X.K H p.1 ((as.lookup p.1).getD Str.empty)
    rw [ke p hp]
    exact hk p hp
  · have := hq (bs.map fun a => (a, (as.lookup a).getD Str.empty)) p (by
      have := hp.map (fun a => (a, (as.lookup a).getD Str.empty))
      rwa [back] at this) (by rw [List.map_map, List.pairwise_map]; exact hs) hn
    rwa [List.map_map] at this
end
/-! ### in the small language -/
theorem skey_inv {d d' : D} (h : btD .skey [d] = some d') : ∃ xs ps, d = .list xs ∧ keyedD xs = some ps ∧ (ps.map (·.1)).Nodup ∧ ps.length < 64 ∧ d' = .list ((sortP ps).map (·.2)) := by
  have key : ∀ xs, keyS xs = some d' → ∃ ps, keyedD xs = some ps ∧ (ps.map (·.1)).Nodup ∧ ps.length < 64 ∧ d' = .list ((sortP ps).map (·.2)) := by
    intro xs h
    unfold keyS at h
    cases e : keyedD xs with
    | none => rw [e] at h; cases h
    | some ps =>
      rw [e] at h
      have h : (if (ps.map (·.1)).Nodup ∧ ps.length < 64 then some (PyData.list ((sortP ps).map (·.2))) else none) = some d' := h
      split at h
      · rename_i hc
        exact ⟨ps, rfl, hc.1, hc.2, (Option.some.inj h).symm⟩
      · cases h
  cases d with
  | list xs => obtain ⟨ps, q⟩ := key xs h; exact ⟨xs, ps, rfl, q⟩
  | _ => cases h
theorem pe_skey {X : Cx} {Wx : WX} (g : Good nm G fe xa Wx X) (hlm : nm.lm = true) {b : E} {y : Expr} {p pos kp lp : Pos} {params : Arguments} {body : Expr} {scope : Scope} (hs : globOk X.env.scope "sorted" = true) (hy : plainR y = true) (L : LamT params body scope) (hb : PE X y (tB X.K G fe (wOf xa Wx) b)) :
    PE X (.Call (.Name "sorted" p) [y] [⟨some "key", .Lambda params body scope lp, kp⟩] pos) (tX X.K G fe (wOf xa Wx) (.bt .skey (.cons b .nil))) := by
  obtain ⟨x, c, P, hx, hcode, htab, TB⟩ := g.lam hlm
  obtain ⟨a1, a2⟩ := glob_vis hs
  have sy := star_one hy [] X.env
  have pk : PK X [⟨some "key", .Lambda params body scope lp, kp⟩] (tCons (tLamE P) tNil) := pk_cons (pe_lam L hcode TB) pk_nil
  refine (pe_callBK (p := p) (pos := pos) (ks := [Str.ofString "key"]) (cr_skeyP g.dp) a1 (bt_names (by simp [bltNames]) g) (by decide +kernel) (pa_cons hb (pa_nil (X := X)) sy) pk (by decide) a2 (by rw [sy]; rfl) (by rw [sy]; rfl)).weak fun σ H Q q => ?_
  obtain ⟨F, ρ, inn, st, q⟩ := q
  have ev : evalE G fe (.bt .skey (.cons b .nil)) ρ = (bor b ρ (evalE G fe b ρ)).bind fun d => .of (btD .skey [d]) := by
    have e1 : evalE G fe (.bt .skey (.cons b .nil)) ρ = (evalAB G fe (.cons b .nil) ρ).bind fun ds => .of (btD .skey ds) := by conv => lhs; unfold evalE
    have e2 : evalAB G fe (.cons b .nil) ρ = (bor b ρ (evalE G fe b ρ)).bind fun d2 => .ok [d2] := by
      show (bor b ρ (evalE G fe b ρ)).bind (fun d => (evalAB G fe .nil ρ).bind fun ds => .ok (d :: ds)) = _
      rfl
    rw [e1, e2]
    cases bor b ρ (evalE G fe b ρ) <;> rfl
  rw [ev] at q
  have q : After (wOf xa Wx) (EscA σ ρ (escB b ++ [])) F H σ ((bor b ρ (evalE G fe b ρ)).bind fun d => .of (btD .skey [d])) _ := q
  rw [List.append_nil] at q
  refine ⟨F, ρ, inn, st, (After.bind (A1 := EscA σ ρ (escB b)) (A2 := EscA σ ρ (escB b)) q (fun _ z => z) (fun _ z => z)).map fun d F1 H1 e1 q1 v r => ?_⟩
  obtain ⟨d', hd, k⟩ := q1.of
  obtain ⟨xs, ps, hx', hks, hnd, h64, rfl⟩ := skey_inv hd
  have tb1 : TabO H1 P := (st.tab.mono e1.same) x hx P htab
  refine ⟨tb1, fun f c' qn H2 k2 fr hf hc => ?_⟩
  have x2 : Ext (EscA σ ρ (escB b)) F1 H1 F1 H2 := Ext.keeps e1.inn k2
  subst hx'
  · obtain ⟨pl, vs, rfl, hp, hr⟩ := r
    obtain ⟨as, rfl, h2, h3, h4⟩ := hr.keyed hks
    have hlen : as.length = ps.length := by have := congrArg List.length h2; simpa using this
    refine ⟨pl, f, c', qn, as, rfl, rfl, hf, hc, .inl (k2.rdL hp rfl), fun p hp' => ?_, by omega, fun bs p' hpm hsr hp' => ?_⟩
    · obtain ⟨us, hu⟩ := h3 p hp'
      exact ⟨us, x2.inn.sub.sqT hu⟩
    · obtain ⟨dO, hdO, hdd⟩ := keyed_sorted hnd hpm h2 hsr
      have x3 : Ext (EscA σ ρ (escB b)) F1 H2 F1 (upd H2 p' (.lst (bs.map fun p => V.ref p.1))) := Ext.laid x2.inn hp'
      refine k F1 _ (x2.trans x3 (fun _ z => z) fun _ z => z) _ ⟨p', _, rfl, e1.same.free (fr _ hp'), e1.inn.free (fr _ hp'), upd_same, ?_⟩
      rw [hdd]
      exact reps_map fun p hpb => h4 dO hdO p (hpm.mem_iff.mp hpb)
end G7

namespace G7
open L2 PyProof.Rows PySem.Spec PySem
variable {nm : Nms} {G : Nat → Option D} {fe : Nat → List D → Res D} {xa : Str → Addr}
/-- a constant's reading -/
theorem tX_const {K : PySem.W.Frag} {W : Str → St → Hp → Prop} {e : E} {d : D} {v : V} (hev : ∀ ρ, evalE G fe e ρ = .ok d) (hr : ∀ F, Rep K F v d) (hf : fresh e = false) {σ : St} {H : Hp} {Q : VK} (q : tX K G fe W e σ H Q) : Q v H := by
  obtain ⟨F, ρ, inn, st, q⟩ := q
  rw [hev] at q
  have q := q F H (Ext.refl inn) v
  rw [hf] at q
  exact q (hr F).x
/-- what is bound to a slice's side -/
theorem po_read {X : Cx} {Wx : WX} {e : E} {o : Option Expr} {c : Expr → Bool} (h : optOk e o c = true) (hE : ∀ x, c x = true → PE X x (tE X.K G fe (wOf xa Wx) e)) :
    PO X o (fun σ H Q => ∃ F ρ, Inn F H ∧ StOk X.K F H σ ρ ∧ After (wOf xa Wx) (EscA σ ρ (esc e)) F H σ (bnd e (evalE G fe e ρ)) (fun i F' H' => Q i H')) := by
  cases o with
  | none =>
    have he : e = .kN := by cases e <;> first | rfl | cases h
    subst he
    refine ⟨fun pins s σ H Q I q => po_none.run pins s σ H Q I ?_⟩
    obtain ⟨F, ρ, inn, st, q⟩ := q
    exact q F H (Ext.refl inn)
  | some x =>
    have hc : c x = true := by cases e <;> first | exact h | cases h
    have hb : ∀ v : Res D, bnd e v = v.bind fun d => match d with | .int i => .ok (some i) | _ => .bad := by
      intro v
      cases e <;> first | rfl | cases h
    refine ⟨fun pins s σ H Q I q => (po_some (hE x hc)).run pins s σ H Q I ?_⟩
    obtain ⟨F, ρ, inn, st, q⟩ := q
    rw [hb] at q
    refine ⟨F, ρ, inn, st, (After.bind (A1 := EscA σ ρ (esc e)) (A2 := EscA σ ρ (esc e)) q (fun _ z => z) (fun _ z => z)).map fun d F1 H1 e1 q1 v r => ?_⟩
    cases d with
    | int i =>
      cases r
      exact ⟨i, rfl, q1 F1 H1 (Ext.refl e1.inn)⟩
    | _ => exact q1.elim
theorem rng_bounds {i j : Int} (h : rngOk i j = true) : -1000000 ≤ i ∧ i ≤ 16777216 ∧ -1000000 ≤ j ∧ j ≤ 16777216 ∧ j - i ≤ 16777216 := by
  unfold rngOk at h
  simp only [Bool.and_eq_true, decide_eq_true_eq] at h
  obtain ⟨⟨⟨⟨a, b⟩, c⟩, d⟩, e⟩ := h
  exact ⟨a, b, c, d, e⟩
theorem rngD_len (lo : Int) (n : Nat) : (rngD lo n).length = n := by unfold rngD; rw [List.length_map, List.length_range]
/-- a walked sequence -/
theorem pi_seq {X : Cx} {Wx : WX} {a : E} {tg x : Expr} (ha : PE X x (tB X.K G fe (wOf xa Wx) a)) : PI X tg x (tI X.K G fe (wOf xa Wx) (.one a)) := by
  refine (((pi_list (tg := tg) (pe_bnd ha)).or (pi_tup (pe_bnd ha))).or (pi_str ha)).weak fun σ H R q => ?_
  obtain ⟨F, ρ, inn, st, q⟩ := q
  have q := After.bind (A1 := EscA σ ρ (escB a)) (A2 := EscA σ ρ (escB a)) (show After _ _ F H σ ((bor a ρ (evalE G fe a ρ)).bind _) _ from q) (fun _ z => z) (fun _ z => z)
  cases hb : bor a ρ (evalE G fe a ρ) with
  | bad => rw [hb] at q; exact q.elim
  | exc c => exact .inl (.inl ⟨F, ρ, inn, st, by rw [hb] at q ⊢; exact q⟩)
  | ok d =>
    rw [hb] at q
    cases d with
    | list ds =>
      refine .inl (.inl ⟨F, ρ, inn, st, ?_⟩)
      rw [hb]
      intro F1 H1 e1 v r bd
      obtain ⟨p, vs, rfl, hp, rs⟩ := r
      refine ⟨p, rfl, ⟨vs, .inl hp⟩, ?_⟩
      exact q F1 H1 e1 F1 H1 (Ext.refl e1.inn) _ _ (walk_lst X.K p vs ds fun _ _ _ _ => .inr trivial) ⟨.inl hp, rs⟩ (by rw [← rs.length]; exact bd.1 p vs rfl (.inl hp))
    | tuple ds =>
      refine .inl (.inr ⟨F, ρ, inn, st, ?_⟩)
      rw [hb]
      intro F1 H1 e1 v r bd
      obtain ⟨p, vs, rfl, hp, rs⟩ := r.tup_inv
      refine ⟨p, rfl, ⟨vs, e1.inn.sub.sqT hp.sqT⟩, ?_⟩
      exact q F1 H1 e1 F1 H1 (Ext.refl e1.inn) _ _ (walk_tup X.K p vs ds) ⟨e1.inn.sub.sqT hp.sqT, rs⟩ (by rw [← rs.length]; exact bd.2 p vs rfl (e1.inn.sub.sqT hp.sqT))
    | str z =>
      refine .inr ⟨F, ρ, inn, st, ?_⟩
      rw [hb]
      intro F1 H1 e1 v r
      obtain ⟨rfl, ho⟩ := r.str_inv
      exact ⟨z, rfl, q F1 H1 e1 F1 H1 (Ext.refl e1.inn) _ _ (walk_str X.K z ho) trivial (by rw [List.length_map]; have := ho.1; simpa [Str.length] using this)⟩
    | _ => exact (q F H (Ext.refl inn)).elim
theorem pi_en {X : Cx} {Wx : WX} (g : Good nm G fe xa Wx X) {a : E} {y : Expr} {elts : List Expr} {kk : Nat} {tp p pos : Pos} (hg : globOk X.env.scope "enumerate" = true) (hy : plainR y = true) (ha : PE X y (tE X.K G fe (wOf xa Wx) a)) :
    PI X (.Tuple elts kk tp) (.Call (.Name "enumerate" p) [y] [] pos) (tI X.K G fe (wOf xa Wx) (.enum a)) := by
  obtain ⟨h1, h2⟩ := glob_vis hg
  have sy : starEach [y] X.env = [(false, eval y X.env)] := star_one hy _ _
  have pa := pa_cons (pe_bnd ha) (pa_nil (X := X)) (star_one hy _ _)
  refine ((pi_enum (elts := elts) (kk := kk) (tpos := tp) h1 (bt_names (by simp [bltNames]) g) pa sy).or (pi_enumT h1 (bt_names (by simp [bltNames]) g) pa sy)).weak fun σ H R q => ?_
  obtain ⟨F, ρ, inn, st, q⟩ := q
  have q := After.bind (A1 := EscA σ ρ (esc a)) (A2 := EscA σ ρ (esc a)) (show After _ _ F H σ ((evalE G fe a ρ).bind _) _ from q) (fun _ z => z) (fun _ z => z)
  cases hb : evalE G fe a ρ with
  | bad => rw [hb] at q; exact q.elim
  | exc c => exact .inl ⟨F, ρ, inn, st, by rw [hb] at q ⊢; exact q⟩
  | ok d =>
    rw [hb] at q
    cases d with
    | list ds =>
      refine .inl ⟨F, ρ, inn, st, ?_⟩
      rw [hb]
      intro F1 H1 e1 v r bd
      cases r with
      | @lst p vs _ hp rs =>
        have hp' : SqL X.K H1 p vs := .inl (e1.inn.sub.rd hp)
        exact ⟨p, vs, rfl, hp', q F1 H1 e1 F1 H1 (Ext.refl e1.inn) _ _ (walk_enumL X.K p vs ds) ⟨hp', rs⟩ (by rw [enumD_len, ← rs.length]; exact bd.1 p vs rfl hp')⟩
    | tuple ds =>
      refine .inr ⟨F, ρ, inn, st, ?_⟩
      rw [hb]
      intro F1 H1 e1 v r bd
      cases r with
      | @tup p vs _ hp rs =>
        have hp' := e1.inn.sub.sqT hp.sqT
        exact ⟨p, vs, rfl, hp', q F1 H1 e1 F1 H1 (Ext.refl e1.inn) _ _ (walk_enumT X.K p vs ds) ⟨hp', rs⟩ (by rw [enumD_len, ← rs.length]; exact bd.2 p vs rfl hp')⟩
    | _ => exact (q F H (Ext.refl inn)).elim
theorem pi_zp {X : Cx} {Wx : WX} (g : Good nm G fe xa Wx X) {a b : E} {y z : Expr} {elts : List Expr} {kk : Nat} {tp p pos : Pos} (hg : globOk X.env.scope "zip" = true) (hy : plainR y = true) (hz : plainR z = true) (ha : PE X y (tE X.K G fe (wOf xa Wx) a)) (hb : PE X z (tE X.K G fe (wOf xa Wx) b)) :
    PI X (.Tuple elts kk tp) (.Call (.Name "zip" p) [y, z] [] pos) (tI X.K G fe (wOf xa Wx) (.zip a b)) := by
  obtain ⟨h1, h2⟩ := glob_vis hg
  have sz := star_one hz [] X.env
  have sy := star_one hy [z] X.env
  refine (RZ.pi_zipA (elts := elts) (kk := kk) (tpos := tp) h1 (bt_names (by simp [bltNames]) g) (pa_cons (pe_bnd ha) (pa_cons (pe_bnd hb) (pa_nil (X := X)) sz) sy) sy (by rw [sz]; rfl)).weak fun σ H R q => ?_
  obtain ⟨F, ρ, inn, st, q⟩ := q
  refine ⟨F, ρ, inn, st, (After.bind (A1 := EscA σ ρ (esc a)) (A2 := EscA σ ρ (esc a ++ esc b)) (show After _ _ F H σ ((evalE G fe a ρ).bind _) _ from q) (fun _ => esc_l) (fun _ z => z)).map fun d F1 H1 e1 q1 v r bd1 => ?_⟩
  refine ⟨F1, ρ, e1.inn, st.ext e1 inn, (After.bind (A1 := EscA σ ρ (esc b)) (A2 := EscA σ ρ (esc a ++ esc b)) (show After _ _ F1 H1 σ ((evalE G fe b ρ).bind _) _ from q1) (fun _ => esc_r) (fun _ z => z)).map fun d2 F2 H2 e2 q2 v2 r2 bd2 => ?_⟩
  cases d with
  | tuple ds =>
    cases d2 with
    | tuple es =>
      cases r with
      | @tup p1 vs _ hp1 rs1 =>
        cases r2 with
        | @tup p2 us _ hp2 rs2 =>
          have k1 : SqT X.K H2 p1 vs := e2.inn.sub.sqT (e2.sub.tupP hp1).sqT
          have k2 : SqT X.K H2 p2 us := e2.inn.sub.sqT hp2.sqT
          exact ⟨p1, p2, vs, us, rfl, .inr ⟨k1, k2, q2 F2 H2 (Ext.refl e2.inn) _ _ (walk_zipP X.K p1 p2 vs us ds es) ⟨⟨k1, rs1.mono e2.sub⟩, k2, rs2⟩ (by rw [zipD_len, ← rs2.length]; have := bd2.2 p2 us rfl k2; omega)⟩⟩
    | _ => exact q2.elim
  | _ => cases d2 <;> exact q2.elim
theorem pi_rg1 {X : Cx} {Wx : WX} (g : Good nm G fe xa Wx X) {a : E} {tg y : Expr} {p pos : Pos} (hg : globOk X.env.scope "range" = true) (hy : plainR y = true) (ha : PE X y (tE X.K G fe (wOf xa Wx) a)) :
    PI X tg (.Call (.Name "range" p) [y] [] pos) (tI X.K G fe (wOf xa Wx) (.rng1 a)) := by
  obtain ⟨h1, h2⟩ := glob_vis hg
  refine (pi_range1 (tg := tg) h1 (bt_names (by simp [bltNames]) g) (pa_cons ha pa_nil (star_one hy _ _)) (star_one hy _ _)).weak fun σ H R q => ?_
  obtain ⟨F, ρ, inn, st, q⟩ := q
  refine ⟨F, ρ, inn, st, (After.bind (A1 := EscA σ ρ (esc a)) (A2 := EscA σ ρ (esc a)) (show After _ _ F H σ ((evalE G fe a ρ).bind _) _ from q) (fun _ z => z) (fun _ z => z)).map fun d F1 H1 e1 q1 v r => ?_⟩
  cases d with
  | int j =>
    cases r
    have q1 : After (wOf xa Wx) _ F1 H1 σ (if rngOk 0 j = true then .ok (rngD 0 j.toNat) else .bad) _ := q1
    split at q1
    · rename_i hr
      obtain ⟨a1, a2, a3, a4, a5⟩ := rng_bounds hr
      exact ⟨j, rfl, by omega, by omega, q1 F1 H1 (Ext.refl e1.inn) _ _ (walk_rng X.K 0 j.toNat) trivial (by rw [rngD_len, sizeLine_eq]; omega)⟩
    · exact q1.elim
  | _ => exact q1.elim
theorem pi_rg2 {X : Cx} {Wx : WX} (g : Good nm G fe xa Wx X) {a b : E} {tg y z : Expr} {p pos : Pos} (hg : globOk X.env.scope "range" = true) (hy : plainR y = true) (hz : plainR z = true) (ha : PE X y (tE X.K G fe (wOf xa Wx) a)) (hb : PE X z (tE X.K G fe (wOf xa Wx) b)) :
    PI X tg (.Call (.Name "range" p) [y, z] [] pos) (tI X.K G fe (wOf xa Wx) (.rng2 a b)) := by
  obtain ⟨h1, h2⟩ := glob_vis hg
  have sz := star_one hz [] X.env
  refine (pi_range2 (tg := tg) h1 (bt_names (by simp [bltNames]) g) (pa_cons ha (pa_cons hb pa_nil sz) (star_one hy _ _)) (by rw [star_one hy, sz]; rfl) sz).weak fun σ H R q => ?_
  obtain ⟨F, ρ, inn, st, q⟩ := q
  refine ⟨F, ρ, inn, st, (After.bind (A1 := EscA σ ρ (esc a)) (A2 := EscA σ ρ (esc a ++ esc b)) (show After _ _ F H σ ((evalE G fe a ρ).bind _) _ from q) (fun _ => esc_l) (fun _ z => z)).map fun d F1 H1 e1 q1 v r => ?_⟩
  refine ⟨F1, ρ, e1.inn, st.ext e1 inn, (After.bind (A1 := EscA σ ρ (esc b)) (A2 := EscA σ ρ (esc a ++ esc b)) (show After _ _ F1 H1 σ ((evalE G fe b ρ).bind _) _ from q1) (fun _ => esc_r) (fun _ z => z)).map fun d2 F2 H2 e2 q2 v2 r2 => ?_⟩
  cases d with
  | int i =>
    cases d2 with
    | int j =>
      cases r; cases r2
      have q2 : After (wOf xa Wx) _ F2 H2 σ (if rngOk i j = true then .ok (rngD i (j - i).toNat) else .bad) _ := q2
      split at q2
      · rename_i hr
        obtain ⟨a1, a2, a3, a4, a5⟩ := rng_bounds hr
        exact ⟨i, j, rfl, ⟨by omega, by omega, by omega, by omega⟩, q2 F2 H2 (Ext.refl e2.inn) _ _ (walk_rng X.K i (j - i).toNat) trivial (by rw [rngD_len, sizeLine_eq]; omega)⟩
      · exact q2.elim
    | _ => exact q2.elim
  | _ => cases d2 <;> exact q2.elim
end G7

namespace G7
open L2 PyProof.Rows PySem.Spec PySem
variable {nm : Nms} {G : Nat → Option D} {fe : Nat → List D → Res D} {xa : Str → Addr}
theorem tst_flat {X : Cx} {Wx : WX} {e : E} {pe : Expr} (hx : PE X pe (tX X.K G fe (wOf xa Wx) e)) (hv : ∀ i, e ≠ .var i) (he : ∀ whole, isTrue pe X.env whole = (do let v ← whole; standAt pe.pos; holding [v] (truthy v)) := by intro _; rfl) : PT X pe (tT X.K G fe (wOf xa Wx) e) := tst_plain hx hv he
theorem t_not {X : Cx} {Wx : WX} {a : E} {x : Expr} {pos : Pos} (ha : PT X x (tT X.K G fe (wOf xa Wx) a)) : PT X (.UnaryOp .Not x pos) (tT X.K G fe (wOf xa Wx) (.not a)) := by
  refine (pt_not ha).weak fun σ H Q q => ?_
  obtain ⟨F, ρ, inn, st, q⟩ := q
  refine ⟨F, ρ, inn, st, (After.bind (A1 := EscA σ ρ (escB a)) (A2 := EscA σ ρ (escB a)) (show After _ _ F H σ ((evalE G fe a ρ).bind _) _ from q) (fun _ z => z) (fun _ z => z)).map fun d F1 H1 e1 q1 => ?_⟩
  exact q1 F1 H1 (Ext.refl e1.inn)
theorem w_and {X : Cx} {Wx : WX} {a b : E} {x y : Expr} {r : List Expr} {pos : Pos} (ha : PT X x (tT X.K G fe (wOf xa Wx) a)) (hb : PW X (.BoolOp .And (y :: r) pos) (tT X.K G fe (wOf xa Wx) b)) : PW X (.BoolOp .And (x :: y :: r) pos) (tT X.K G fe (wOf xa Wx) (.and a b)) := by
  refine (pw_and ha hb).weak fun σ H Q q => ?_
  obtain ⟨F, ρ, inn, st, q⟩ := q
  refine ⟨F, ρ, inn, st, (After.bind (A1 := EscA σ ρ (escB a)) (A2 := EscA σ ρ (esc a ++ esc b)) (show After _ _ F H σ ((evalE G fe a ρ).bind _) _ from q) (fun _ w => esc_l (w.mono (esc_sub a))) (fun _ z => z)).map fun d F1 H1 e1 q1 => ?_⟩
  cases ht : truth d with
  | false =>
    rw [if_neg Bool.false_ne_true]
    rw [ht] at q1
    have q1 := q1 F1 H1 (Ext.refl e1.inn)
    dsimp only at q1
    rw [ht] at q1
    exact q1
  | true =>
    rw [if_pos rfl]
    rw [ht] at q1
    exact ⟨F1, ρ, e1.inn, st.ext e1 inn, After.less q1 fun _ w => esc_r (w.mono (esc_sub b))⟩
theorem w_or {X : Cx} {Wx : WX} {a b : E} {x y : Expr} {r : List Expr} {pos : Pos} (ha : PT X x (tT X.K G fe (wOf xa Wx) a)) (hb : PW X (.BoolOp .Or (y :: r) pos) (tT X.K G fe (wOf xa Wx) b)) : PW X (.BoolOp .Or (x :: y :: r) pos) (tT X.K G fe (wOf xa Wx) (.or a b)) := by
  refine (pw_or ha hb).weak fun σ H Q q => ?_
  obtain ⟨F, ρ, inn, st, q⟩ := q
  refine ⟨F, ρ, inn, st, (After.bind (A1 := EscA σ ρ (escB a)) (A2 := EscA σ ρ (esc a ++ esc b)) (show After _ _ F H σ ((evalE G fe a ρ).bind _) _ from q) (fun _ w => esc_l (w.mono (esc_sub a))) (fun _ z => z)).map fun d F1 H1 e1 q1 => ?_⟩
  cases ht : truth d with
  | true =>
    rw [if_pos rfl]
    rw [ht] at q1
    have q1 := q1 F1 H1 (Ext.refl e1.inn)
    dsimp only at q1
    rw [ht] at q1
    exact q1
  | false =>
    rw [if_neg Bool.false_ne_true]
    rw [ht] at q1
    exact ⟨F1, ρ, e1.inn, st.ext e1 inn, After.less q1 fun _ w => esc_r (w.mono (esc_sub b))⟩
theorem tT_one {X : Cx} {Wx : WX} {a : E} {σ : St} {H : Hp} {Q : Bool → Hp → Prop} (q : tT X.K G fe (wOf xa Wx) (.one a) σ H Q) : tT X.K G fe (wOf xa Wx) a σ H Q := by
  obtain ⟨F, ρ, inn, st, q⟩ := q
  exact ⟨F, ρ, inn, st, After.less q fun _ w => w.mono (esc_sub a)⟩
/-- a and b, as values -/
theorem e_and {X : Cx} {Wx : WX} {a b : E} {x y : Expr} {r : List Expr} {pos : Pos} (ha : PE X x (tE X.K G fe (wOf xa Wx) a)) (hb : PE X (.BoolOp .And (y :: r) pos) (tE X.K G fe (wOf xa Wx) b)) : PE X (.BoolOp .And (x :: y :: r) pos) (tX X.K G fe (wOf xa Wx) (.and a b)) := by
  refine (pe_andT ha hb).weak fun σ H Q q => ?_
  obtain ⟨F, ρ, inn, st, q⟩ := q
  refine ⟨F, ρ, inn, st, (After.bind (A1 := EscA σ ρ (esc a)) (A2 := EscA σ ρ (esc a ++ esc b)) (show After _ _ F H σ ((evalE G fe a ρ).bind _) _ from q) (fun _ => esc_l) (fun _ z => z)).map fun d F1 H1 e1 q1 v r => ?_⟩
  refine ⟨truth d, (Rep.b e1.inn.sub r).tru e1.inn.sub fun ds hd => ?_, ?_⟩
  · subst hd
    cases r with
    | dct h rk => exact ⟨_, _, rfl, e1.inn.sub _ _ h, rk.length⟩
  · cases ht : truth d with
    | false =>
      rw [if_neg Bool.false_ne_true]
      rw [ht] at q1
      exact q1 F1 H1 (Ext.refl e1.inn) v r.x
    | true =>
      rw [if_pos rfl]
      rw [ht] at q1
      exact ⟨F1, ρ, e1.inn, st.ext e1 inn, (After.less q1 fun _ => esc_r).map fun d2 F2 H2 e2 k v2 r2 => k v2 r2.x⟩
theorem e_or {X : Cx} {Wx : WX} {a b : E} {x y : Expr} {r : List Expr} {pos : Pos} (ha : PE X x (tE X.K G fe (wOf xa Wx) a)) (hb : PE X (.BoolOp .Or (y :: r) pos) (tE X.K G fe (wOf xa Wx) b)) : PE X (.BoolOp .Or (x :: y :: r) pos) (tX X.K G fe (wOf xa Wx) (.or a b)) := by
  refine (pe_orT ha hb).weak fun σ H Q q => ?_
  obtain ⟨F, ρ, inn, st, q⟩ := q
  refine ⟨F, ρ, inn, st, (After.bind (A1 := EscA σ ρ (esc a)) (A2 := EscA σ ρ (esc a ++ esc b)) (show After _ _ F H σ ((evalE G fe a ρ).bind _) _ from q) (fun _ => esc_l) (fun _ z => z)).map fun d F1 H1 e1 q1 v r => ?_⟩
  refine ⟨truth d, (Rep.b e1.inn.sub r).tru e1.inn.sub fun ds hd => ?_, ?_⟩
  · subst hd
    cases r with
    | dct h rk => exact ⟨_, _, rfl, e1.inn.sub _ _ h, rk.length⟩
  · cases ht : truth d with
    | true =>
      rw [if_pos rfl]
      rw [ht] at q1
      exact q1 F1 H1 (Ext.refl e1.inn) v r.x
    | false =>
      rw [if_neg Bool.false_ne_true]
      rw [ht] at q1
      exact ⟨F1, ρ, e1.inn, st.ext e1 inn, (After.less q1 fun _ => esc_r).map fun d2 F2 H2 e2 k v2 r2 => k v2 r2.x⟩
theorem e_ite {X : Cx} {Wx : WX} {c a b : E} {x y z : Expr} {pos : Pos} (hc : PT X x (tT X.K G fe (wOf xa Wx) c)) (ha : PE X y (tE X.K G fe (wOf xa Wx) a)) (hb : PE X z (tE X.K G fe (wOf xa Wx) b)) : PE X (.IfExp x y z pos) (tX X.K G fe (wOf xa Wx) (.ite c a b)) := by
  refine (pe_ifExp hc ha hb).weak fun σ H Q q => ?_
  obtain ⟨F, ρ, inn, st, q⟩ := q
  refine ⟨F, ρ, inn, st, (After.bind (A1 := EscA σ ρ (escB c)) (A2 := EscA σ ρ (escB c ++ esc a ++ esc b)) (show After _ _ F H σ ((evalE G fe c ρ).bind _) _ from q) (fun _ w => esc_l (esc_l w)) (fun _ z => z)).map fun d F1 H1 e1 q1 => ?_⟩
  cases ht : truth d with
  | true =>
    rw [if_pos rfl]
    rw [ht] at q1
    exact ⟨F1, ρ, e1.inn, st.ext e1 inn, (After.less q1 fun _ w => esc_l (esc_r w)).map fun d2 F2 H2 e2 k v2 r2 => k v2 r2.x⟩
  | false =>
    rw [if_neg Bool.false_ne_true]
    rw [ht] at q1
    exact ⟨F1, ρ, e1.inn, st.ext e1 inn, (After.less q1 fun _ w => esc_r w).map fun d2 F2 H2 e2 k v2 r2 => k v2 r2.x⟩
theorem e_idx {X : Cx} {Wx : WX} (g : Good nm G fe xa Wx X) {a i : E} {x y : Expr} {pos : Pos} (hy : noSlice y = true) (ha : PE X x (tB X.K G fe (wOf xa Wx) a)) (hi : PE X y (tE X.K G fe (wOf xa Wx) i)) : PE X (.Subscript x y pos) (tX X.K G fe (wOf xa Wx) (.idx a i)) := by
  have hs : PlainIx y := fun o i => by cases y <;> first | rfl | cases hy
  refine (pe_ix (ix_all g.hu) ha hi hs).weak fun σ H Q q => ?_
  obtain ⟨F, ρ, inn, st, q⟩ := q
  refine ⟨F, ρ, inn, st, (After.bind (A1 := EscA σ ρ (escB a)) (A2 := EscA σ ρ (escB a ++ esc i)) (show After _ _ F H σ ((bor a ρ (evalE G fe a ρ)).bind _) _ from q) (fun _ => esc_l) (fun _ z => z)).map fun d1 F1 H1 e1 q1 v1 r1 => ?_⟩
  refine ⟨F1, ρ, e1.inn, st.ext e1 inn, (After.bind (A1 := EscA σ ρ (esc i)) (A2 := EscA σ ρ (escB a ++ esc i)) (show After _ _ F1 H1 σ ((evalE G fe i ρ).bind _) _ from q1) (fun _ => esc_r) (fun _ z => z)).map fun d2 F2 H2 e2 q2 v2 r2 => ?_⟩
  obtain ⟨d, hd, k⟩ := q2.of
  exact ⟨F2, d1, d2, d, e2.inn, r1.mono e2, Rep.b e2.inn.sub r2, hd, fun v r => k F2 H2 (Ext.refl e2.inn) v r.x⟩
theorem e_slc {X : Cx} {Wx : WX} {a lo hi : E} {x : Expr} {l h : Option Expr} {p2 pos : Pos} {c1 c2 : Expr → Bool} (ha : PE X x (tB X.K G fe (wOf xa Wx) a)) (h1 : optOk lo l c1 = true) (h2 : optOk hi h c2 = true) (hl : ∀ x, c1 x = true → PE X x (tE X.K G fe (wOf xa Wx) lo)) (hh : ∀ x, c2 x = true → PE X x (tE X.K G fe (wOf xa Wx) hi)) :
    PE X (.Subscript x (.Slice l h none p2) pos) (tX X.K G fe (wOf xa Wx) (.slc a lo hi)) := by
  refine (pe_slice sl_all ha (po_read h1 hl) (po_read h2 hh)).weak fun σ H Q q => ?_
  obtain ⟨F, ρ, inn, st, q⟩ := q
  refine ⟨F, ρ, inn, st, (After.bind (A1 := EscA σ ρ (escB a)) (A2 := EscA σ ρ (escB a ++ esc lo ++ esc hi)) (show After _ _ F H σ ((bor a ρ (evalE G fe a ρ)).bind _) _ from q) (fun _ w => esc_l (esc_l w)) (fun _ z => z)).map fun d1 F1 H1 e1 q1 v1 r1 => ?_⟩
  have st1 := st.ext e1 inn
  refine ⟨F1, ρ, e1.inn, st1, (After.bind (A1 := EscA σ ρ (esc lo)) (A2 := EscA σ ρ (escB a ++ esc lo ++ esc hi)) (show After _ _ F1 H1 σ ((bnd lo (evalE G fe lo ρ)).bind _) _ from q1) (fun _ w => esc_l (esc_r w)) (fun _ z => z)).map fun i F2 H2 e2 q2 => ?_⟩
  refine ⟨F2, ρ, e2.inn, st1.ext e2 e1.inn, (After.bind (A1 := EscA σ ρ (esc hi)) (A2 := EscA σ ρ (escB a ++ esc lo ++ esc hi)) (show After _ _ F2 H2 σ ((bnd hi (evalE G fe hi ρ)).bind _) _ from q2) (fun _ w => esc_r w) (fun _ z => z)).map fun j F3 H3 e3 q3 => ?_⟩
  obtain ⟨d, hd, k⟩ := q3.of
  exact ⟨F3, d1, d, e3.inn, (r1.mono e2).mono e3, hd, fun v F' H' e r => k F' H' e.nil v r.x⟩
theorem e_neg {X : Cx} {Wx : WX} {a : E} {x : Expr} {pos : Pos} (ha : PE X x (tE X.K G fe (wOf xa Wx) a)) : PE X (.UnaryOp .USub x pos) (tX X.K G fe (wOf xa Wx) (.neg a)) := by
  refine (pe_un un_neg ha).weak fun σ H Q q => ?_
  obtain ⟨F, ρ, inn, st, q⟩ := q
  refine ⟨F, ρ, inn, st, (After.bind (A1 := EscA σ ρ (esc a)) (A2 := EscA σ ρ (esc a)) (show After _ _ F H σ ((evalE G fe a ρ).bind _) _ from q) (fun _ z => z) (fun _ z => z)).map fun d F1 H1 e1 q1 v r => ?_⟩
  obtain ⟨d', hd, k⟩ := q1.of
  cases d with
  | int i =>
    cases r
    cases (Option.some.inj hd)
    exact ⟨i, rfl, k F1 H1 (Ext.refl e1.inn) _ (Rep.int _)⟩
  | _ => cases hd
theorem e_not {X : Cx} {Wx : WX} {a : E} {x : Expr} {pos : Pos} (ha : PE X x (tE X.K G fe (wOf xa Wx) a)) (hv : PE X x (fun σ H Q => ∃ F ρ, Inn F H ∧ StOk X.K F H σ ρ ∧ After (wOf xa Wx) (EscA σ ρ (escB a)) F H σ (evalE G fe a ρ) (fun d F' H' => ∀ v, TruV X.K v H' (truth d) → Q v H'))) : PE X (.UnaryOp .Not x pos) (tX X.K G fe (wOf xa Wx) (.not a)) := by
  refine (pe_notT hv).weak fun σ H Q q => ?_
  obtain ⟨F, ρ, inn, st, q⟩ := q
  refine ⟨F, ρ, inn, st, (After.bind (A1 := EscA σ ρ (escB a)) (A2 := EscA σ ρ (escB a)) (show After _ _ F H σ ((evalE G fe a ρ).bind _) _ from q) (fun _ z => z) (fun _ z => z)).map fun d F1 H1 e1 q1 v r => ?_⟩
  exact ⟨truth d, r, q1 F1 H1 (Ext.refl e1.inn) _ (Rep.x (.bl _))⟩
/-- what not looks at -/
theorem tru_of {X : Cx} {Wx : WX} {a : E} {x : Expr} (hx : PE X x (tX X.K G fe (wOf xa Wx) a)) (hvar : ∀ i, a = .var i → ∃ y p, x = .Name y p ∧ slotOk X.N X.env.scope i y = true) :
    PE X x (fun σ H Q => ∃ F ρ, Inn F H ∧ StOk X.K F H σ ρ ∧ After (wOf xa Wx) (EscA σ ρ (escB a)) F H σ (evalE G fe a ρ) (fun d F' H' => ∀ v, TruV X.K v H' (truth d) → Q v H')) := by
  by_cases hv : ∃ i, a = .var i
  · obtain ⟨i, rfl⟩ := hv
    obtain ⟨y, p, rfl, hs⟩ := hvar i rfl
    obtain ⟨h1, h2, h3, h4⟩ := slot_vis hs
    refine (pe_var h1 h2 h3 h4).weak fun σ H Q q => ?_
    obtain ⟨F, ρ, inn, st, q⟩ := q
    have q : After (wOf xa Wx) (EscA σ ρ (escB (.var i))) F H σ (read ρ i) _ := q
    unfold read at q
    cases e : ρ.at i with
    | none => rw [e] at q; exact q.elim
    | some s =>
      rw [e] at q
      obtain ⟨v, hv, sl⟩ := st.ok i s e
      refine ⟨v, hv, ?_⟩
      cases s with
      | dat d =>
        refine q F H (Ext.refl inn) v ((Rep.b inn.sub sl).tru inn.sub fun ds hd => ?_)
        subst hd
        have sl : Rep X.K F v (.dict ds) := sl
        cases sl with
        | dct h rk => exact ⟨_, _, rfl, inn.sub _ _ h, rk.length⟩
      | own d =>
        refine q F H (Ext.refl inn) v ?_
        cases d with
        | list ds => obtain ⟨p, vs, rfl, hp, r, _⟩ := sl; exact .inl ⟨vs, SqL.of hp, by cases r <;> rfl⟩
        | dict ds => obtain ⟨p, vs, rfl, hp, r, _⟩ := sl; exact .inr (.inr ⟨vs, hp, by cases r <;> rfl⟩)
        | none => exact sl.elim
        | bool _ => exact sl.elim
        | int _ => exact sl.elim
        | str _ => exact sl.elim
        | tuple _ => exact sl.elim
      | lck d => exact q.elim
  · have hv : ∀ i, a ≠ .var i := fun i z => hv ⟨i, z⟩
    refine hx.weak fun σ H Q q => ?_
    obtain ⟨F, ρ, inn, st, q⟩ := q
    have e2 : escB a = esc a := by cases a <;> first | rfl | exact absurd rfl (hv _)
    rw [e2] at q
    refine ⟨F, ρ, inn, st, q.map fun d F' H' ex k v r => k v ((r.b ex.inn.sub).tru ex.inn.sub fun ds hd => ?_)⟩
    subst hd
    cases hf : fresh a with
    | false =>
      rw [hf] at r
      have r : Rep X.K F' v (.dict ds) := r
      cases r with
      | dct h rk => exact ⟨_, _, rfl, ex.inn.sub _ _ h, rk.length⟩
    | true =>
      rw [hf] at r
      obtain ⟨p, kvs, rfl, _, _, h, rk⟩ := r
      exact ⟨p, kvs, rfl, h, rk.length⟩
theorem chk_var {sc : Scope} {N : List Str} {i : Nat} {x : Expr} (h : chkE nm N sc (.var i) x = true) : ∃ y p, x = .Name y p ∧ slotOk N sc i y = true := by
  cases x with
  | Name y p => exact ⟨y, p, rfl, by unfold chkE at h; exact h⟩
  | _ => unfold chkE at h; cases h
end G7

namespace G7
open L2 PyProof.Rows PySem.Spec PySem
variable {nm : Nms} {G : Nat → Option D} {fe : Nat → List D → Res D} {xa : Str → Addr}
section
variable {X : Cx} {Wx : WX}
theorem tE_of {e : E} {pe : Expr} (h : PE X pe (tX X.K G fe (wOf xa Wx) e)) : PE X pe (tE X.K G fe (wOf xa Wx) e) := h.weak fun _ _ _ q => tX_of_tE q
theorem e_tup {es : E} {xs : List Expr} {kk : Nat} {pos : Pos} (hl : xs.length ≤ 1000) (hn : ∀ {ρ : Env} {ds}, evalA G fe es ρ = .ok ds → ds.length = xs.length) (h : PA X xs (tA X.K G fe (wOf xa Wx) es)) : PE X (.Tuple xs kk pos) (tX X.K G fe (wOf xa Wx) (.tup es)) := by
  refine (pe_tupP h).weak fun σ H Q q => ?_
  obtain ⟨F, ρ, inn, st, q⟩ := q
  have q : After (wOf xa Wx) (EscA σ ρ (escA es)) F H σ ((evalA G fe es ρ).bind fun ds => .ok (.tuple ds)) (fun d F' H' => ∀ v, RepX false X.K H F' H' v d → Q v H') := q
  refine ⟨F, ρ, inn, st, ?_⟩
  cases he : evalA G fe es ρ with
  | bad => rw [he] at q; exact q.elim
  | exc c => rw [he] at q; exact q
  | ok ds =>
    rw [he] at q
    have hd := hn he
    intro F1 H1 e1 vs rs
    refine ⟨by rw [rs.length, hd]; exact Nat.le_trans hl (by decide), fun p o ho hp => ?_⟩
    have e2 : Ext (EscA σ ρ (escA es)) F1 H1 (upd F1 p (TupO o vs)) (upd H1 p (TupO o vs)) := Ext.laidF e1.inn hp rfl
    exact q _ _ (e1.trans e2 (fun _ z => z) fun _ z => z) (.ref p) (Rep.tup (TupP.new ho) (rs.mono e2.sub)).x
theorem e_lst {es : E} {xs : List Expr} {pos : Pos} (hl : xs.length ≤ 1000) (hn : ∀ {ρ : Env} {ds}, evalA G fe es ρ = .ok ds → ds.length = xs.length) (h : PA X xs (tA X.K G fe (wOf xa Wx) es)) : PE X (.List xs pos) (tX X.K G fe (wOf xa Wx) (.lst es)) := by
  refine (pe_lst h).weak fun σ H Q q => ?_
  obtain ⟨F, ρ, inn, st, q⟩ := q
  have q : After (wOf xa Wx) (EscA σ ρ (escA es)) F H σ ((evalA G fe es ρ).bind fun ds => .ok (.list ds)) (fun d F' H' => ∀ v, RepX true X.K H F' H' v d → Q v H') := q
  refine ⟨F, ρ, inn, st, ?_⟩
  cases he : evalA G fe es ρ with
  | bad => rw [he] at q; exact q.elim
  | exc c => rw [he] at q; exact q
  | ok ds =>
    rw [he] at q
    have hd := hn he
    intro F1 H1 e1 vs rs
    refine ⟨by rw [rs.length, hd]; exact Nat.le_trans hl (by decide), fun p hp => ?_⟩
    exact q F1 _ (e1.trans (Ext.laid e1.inn hp) (fun _ z => z) fun _ z => z) (.ref p) ⟨p, vs, rfl, e1.same.free hp, e1.inn.free hp, upd_same, rs⟩
theorem e_dnew {pos : Pos} : PE X (.Dict [] [] pos) (tX X.K G fe (wOf xa Wx) .dnew) := by
  refine pe_dnewK.weak fun σ H Q q => ?_
  obtain ⟨F, ρ, inn, st, q⟩ := q
  intro p hp
  exact q F _ (Ext.laid inn hp) (.ref p) ⟨p, [], rfl, hp, inn.free hp, upd_same, .nil⟩
theorem evalA_len {N : List Str} {sc : Scope} : ∀ {es : E} {xs : List Expr} {ρ : Env} {ds : List D}, chkA nm N sc es xs = true → evalA G fe es ρ = .ok ds → ds.length = xs.length
  | .nil, [], ρ, ds, _, h => by unfold evalA at h; cases h; rfl
  | .cons e es, x :: xs, ρ, ds, h, h' => by
    unfold chkA at h
    simp only [Bool.and_eq_true] at h
    unfold evalA at h'
    obtain ⟨d, _, h'⟩ := res_bind_ok h'
    obtain ⟨ds', h2, h'⟩ := res_bind_ok h'
    cases h'
    rw [List.length_cons, List.length_cons, evalA_len h.2 h2]
  | .nil, _ :: _, _, _, h, _ => by unfold chkA at h; cases h
  | .cons _ _, [], _, _, h, _ => by unfold chkA at h; cases h
  | .var _, _, _, _, _, h | .glob _, _, _, _, _, h | .kI _, _, _, _, _, h | .kS _, _, _, _, _, h | .kB _, _, _, _, _, h | .kN, _, _, _, _, h | .tup _, _, _, _, _, h | .lst _, _, _, _, _, h | .dnew, _, _, _, _, h | .dct1 _ _, _, _, _, _, h
  | .op _ _ _, _, _, _, _, h | .neg _, _, _, _, _, h | .cmp _ _ _, _, _, _, _, h | .chain _ _ _ _ _, _, _, _, _, h | .and _ _, _, _, _, _, h | .or _ _, _, _, _, _, h | .one _, _, _, _, _, h | .not _, _, _, _, _, h | .ite _ _ _, _, _, _, _, h
  | .idx _ _, _, _, _, _, h | .slc _ _ _, _, _, _, _, h | .call _ _, _, _, _, _, h | .bt _ _, _, _, _, _, h | .isi _ _, _, _, _, _, h | .lc _ _ _ _, _, _, _, _, h | .rng1 _, _, _, _, _, h | .rng2 _ _, _, _, _, _, h | .enum _, _, _, _, _, h | .zip _ _, _, _, _, _, h => by unfold evalA at h; cases h
theorem a_nil : PA X [] (tA X.K G fe (wOf xa Wx) .nil) := by
  refine pa_nil.weak fun σ H Q q => ?_
  obtain ⟨F, ρ, inn, st, q⟩ := q
  exact q F H (Ext.refl inn) [] .nil
theorem ab_nil : PA X [] (tAB X.K G fe (wOf xa Wx) .nil) := by
  refine pa_nil.weak fun σ H Q q => ?_
  obtain ⟨F, ρ, inn, st, q⟩ := q
  exact q F H (Ext.refl inn) [] .nil
theorem a_cons {e es : E} {x : Expr} {xs : List Expr} (hx : plainA x = true) (h : PE X x (tE X.K G fe (wOf xa Wx) e)) (hs : PA X xs (tA X.K G fe (wOf xa Wx) es)) : PA X (x :: xs) (tA X.K G fe (wOf xa Wx) (.cons e es)) := by
  refine (pa_cons h hs (star_oneA hx _ _)).weak fun σ H Q q => ?_
  obtain ⟨F, ρ, inn, st, q⟩ := q
  refine ⟨F, ρ, inn, st, (After.bind (A1 := EscA σ ρ (esc e)) (A2 := EscA σ ρ (esc e ++ escA es)) (show After _ _ F H σ ((evalE G fe e ρ).bind _) _ from q) (fun _ => esc_l) (fun _ z => z)).map fun d F1 H1 e1 q1 v r => ?_⟩
  refine ⟨F1, ρ, e1.inn, st.ext e1 inn, (After.bind (A1 := EscA σ ρ (escA es)) (A2 := EscA σ ρ (esc e ++ escA es)) (show After _ _ F1 H1 σ ((evalA G fe es ρ).bind _) _ from q1) (fun _ => esc_r) (fun _ z => z)).map fun ds F2 H2 e2 q2 vs rs => ?_⟩
  exact q2 F2 H2 (Ext.refl e2.inn) _ (.cons (r.mono e2.sub) rs)
theorem ab_cons {e es : E} {x : Expr} {xs : List Expr} (hx : plainA x = true) (h : PE X x (tB X.K G fe (wOf xa Wx) e)) (hs : PA X xs (tAB X.K G fe (wOf xa Wx) es)) : PA X (x :: xs) (tAB X.K G fe (wOf xa Wx) (.cons e es)) := by
  refine (pa_cons h hs (star_oneA hx _ _)).weak fun σ H Q q => ?_
  obtain ⟨F, ρ, inn, st, q⟩ := q
  refine ⟨F, ρ, inn, st, (After.bind (A1 := EscA σ ρ (escB e)) (A2 := EscA σ ρ (escB e ++ escAB es)) (show After _ _ F H σ ((bor e ρ (evalE G fe e ρ)).bind _) _ from q) (fun _ => esc_l) (fun _ z => z)).map fun d F1 H1 e1 q1 v r => ?_⟩
  refine ⟨F1, ρ, e1.inn, st.ext e1 inn, (After.bind (A1 := EscA σ ρ (escAB es)) (A2 := EscA σ ρ (escB e ++ escAB es)) (show After _ _ F1 H1 σ ((evalAB G fe es ρ).bind _) _ from q1) (fun _ => esc_r) (fun _ z => z)).map fun ds F2 H2 e2 q2 vs rs => ?_⟩
  exact q2 F2 H2 (Ext.refl e2.inn) _ (.cons (r.mono e2) rs)
end
/-- what is to be shown of a term -/
structure Snd (nm : Nms) (G : Nat → Option D) (fe : Nat → List D → Res D) (xa : Str → Addr) (e : E) : Prop where
  ev : ∀ {X : Cx} {Wx : WX}, Good nm G fe xa Wx X → ∀ pe, chkE nm X.N X.env.scope e pe = true → PE X pe (tX X.K G fe (wOf xa Wx) e)
  ts : ∀ {X : Cx} {Wx : WX}, Good nm G fe xa Wx X → ∀ pe, plainR pe = true → chkE nm X.N X.env.scope e pe = true → PT X pe (tT X.K G fe (wOf xa Wx) e)
  wt : ∀ {X : Cx} {Wx : WX}, Good nm G fe xa Wx X → ∀ op xs pos, chkE nm X.N X.env.scope e (.BoolOp op xs pos) = true → PW X (.BoolOp op xs pos) (tT X.K G fe (wOf xa Wx) e)
  ar : ∀ {X : Cx} {Wx : WX}, Good nm G fe xa Wx X → ∀ xs, chkA nm X.N X.env.scope e xs = true → PA X xs (tA X.K G fe (wOf xa Wx) e) ∧ PA X xs (tAB X.K G fe (wOf xa Wx) e)
  cd : ∀ {X : Cx} {Wx : WX}, Good nm G fe xa Wx X → ∀ xs, chkC nm X.N X.env.scope e xs = true → PTs X xs (tC X.K G fe (wOf xa Wx) e)
  it : ∀ {X : Cx} {Wx : WX}, Good nm G fe xa Wx X → ∀ tg x, chkI nm X.N X.env.scope tg e x = true → PI X tg x (tI X.K G fe (wOf xa Wx) e)
theorem Snd.eb {e : E} (s : Snd nm G fe xa e) {X : Cx} {Wx : WX} (g : Good nm G fe xa Wx X) (pe : Expr) (h : chkE nm X.N X.env.scope e pe = true) : PE X pe (tB X.K G fe (wOf xa Wx) e) := by
  refine pe_bB (s.ev g pe h) fun i hi => ?_
  subst hi
  obtain ⟨y, p, rfl, hs⟩ := chk_var h
  exact borrow_var hs
theorem Snd.ee {e : E} (s : Snd nm G fe xa e) {X : Cx} {Wx : WX} (g : Good nm G fe xa Wx X) (pe : Expr) (h : chkE nm X.N X.env.scope e pe = true) : PE X pe (tE X.K G fe (wOf xa Wx) e) := tE_of (s.ev g pe h)
/-- the rest of it, for a plain term: no list of arguments, no test, no walk -/
theorem snd_flat {e : E} (ev : ∀ {X : Cx} {Wx : WX}, Good nm G fe xa Wx X → ∀ pe, chkE nm X.N X.env.scope e pe = true → PE X pe (tX X.K G fe (wOf xa Wx) e))
    (hp : ∀ {N sc pe}, chkE nm N sc e pe = true → ∀ (env : PySem.Env) whole, isTrue pe env whole = (do let v ← whole; standAt pe.pos; holding [v] (truthy v)))
    (hb : ∀ {N sc op xs pos}, chkE nm N sc e (.BoolOp op xs pos) = false) (ha : ∀ {N sc xs}, chkA nm N sc e xs = false) (hc : ∀ {N sc xs}, chkC nm N sc e xs = false) (hi : ∀ {N sc tg x}, chkI nm N sc tg e x = false) (hv : ∀ i, e ≠ .var i) : Snd nm G fe xa e where
  ev := ev
  ts g pe _ h := tst_plain (ev g pe h) hv fun w => hp h _ w
  wt g op xs pos h := by rw [hb] at h; cases h
  ar g xs h := by rw [ha] at h; cases h
  cd g xs h := by rw [hc] at h; cases h
  it g tg x h := by rw [hi] at h; cases h
end G7

namespace G7
open L2 PyProof.Rows PySem.Spec PySem
variable {nm : Nms} {G : Nat → Option D} {fe : Nat → List D → Res D} {xa : Str → Addr}
theorem s_kI (i : Int) : Snd nm G fe xa (.kI i) := by
  (refine snd_flat ?_ ?_ ?_ ?_ ?_ ?_ ?_; rotate_left 1; (intro N sc pe h env w; cases pe <;> first | rfl | (unfold chkE at h; cases h)); (intro N sc op xs pos; unfold chkE; rfl); (intro N sc xs; cases xs <;> (first | rfl | (unfold chkA; rfl))); (intro N sc xs; rcases xs with _ | ⟨_, _ | ⟨_, _⟩⟩ <;> (first | rfl | (unfold chkC; rfl))); (intro N sc tg x; unfold chkI; rfl); exact fun _ z => by cases z)
  intro X Wx g pe h
  cases pe with
  | Constant c k pos =>
    cases c with
    | int j =>
      unfold chkE at h
      have e := of_decide_eq_true h
      subst e
      exact pe_int.weak fun σ H Q q => tX_const (v := .int i) (fun _ => by unfold evalE; rfl) (fun F => .int i) rfl q
    | _ => unfold chkE at h; cases h
  | _ => unfold chkE at h; cases h
theorem s_kS (s : Str) : Snd nm G fe xa (.kS s) := by
  (refine snd_flat ?_ ?_ ?_ ?_ ?_ ?_ ?_; rotate_left 1; (intro N sc pe h env w; cases pe <;> first | rfl | (unfold chkE at h; cases h)); (intro N sc op xs pos; unfold chkE; rfl); (intro N sc xs; cases xs <;> (first | rfl | (unfold chkA; rfl))); (intro N sc xs; rcases xs with _ | ⟨_, _ | ⟨_, _⟩⟩ <;> (first | rfl | (unfold chkC; rfl))); (intro N sc tg x; unfold chkI; rfl); exact fun _ z => by cases z)
  intro X Wx g pe h
  cases pe with
  | Constant c k pos =>
    cases c with
    | str j =>
      unfold chkE at h
      simp only [Bool.and_eq_true, decide_eq_true_eq] at h
      obtain ⟨e, h2⟩ := h
      subst e
      exact pe_str.weak fun σ H Q q => tX_const (v := .str s) (fun _ => by unfold evalE; rfl) (fun F => .str (str_small h2)) rfl q
    | _ => unfold chkE at h; cases h
  | _ => unfold chkE at h; cases h
theorem s_kB (b : Bool) : Snd nm G fe xa (.kB b) := by
  (refine snd_flat ?_ ?_ ?_ ?_ ?_ ?_ ?_; rotate_left 1; (intro N sc pe h env w; cases pe <;> first | rfl | (unfold chkE at h; cases h)); (intro N sc op xs pos; unfold chkE; rfl); (intro N sc xs; cases xs <;> (first | rfl | (unfold chkA; rfl))); (intro N sc xs; rcases xs with _ | ⟨_, _ | ⟨_, _⟩⟩ <;> (first | rfl | (unfold chkC; rfl))); (intro N sc tg x; unfold chkI; rfl); exact fun _ z => by cases z)
  intro X Wx g pe h
  cases pe with
  | Constant c k pos =>
    cases c with
    | bool j =>
      unfold chkE at h
      have e := of_decide_eq_true h
      subst e
      exact pe_bl.weak fun σ H Q q => tX_const (v := .bl b) (fun _ => by unfold evalE; rfl) (fun F => .bl b) rfl q
    | _ => unfold chkE at h; cases h
  | _ => unfold chkE at h; cases h
theorem s_kN : Snd nm G fe xa .kN := by
  (refine snd_flat ?_ ?_ ?_ ?_ ?_ ?_ ?_; rotate_left 1; (intro N sc pe h env w; cases pe <;> first | rfl | (unfold chkE at h; cases h)); (intro N sc op xs pos; unfold chkE; rfl); (intro N sc xs; cases xs <;> (first | rfl | (unfold chkA; rfl))); (intro N sc xs; rcases xs with _ | ⟨_, _ | ⟨_, _⟩⟩ <;> (first | rfl | (unfold chkC; rfl))); (intro N sc tg x; unfold chkI; rfl); exact fun _ z => by cases z)
  intro X Wx g pe h
  cases pe with
  | Constant c k pos =>
    cases c with
    | none => exact pe_non.weak fun σ H Q q => tX_const (v := .non) (fun _ => by unfold evalE; rfl) (fun F => .non) rfl q
    | _ => unfold chkE at h; cases h
  | _ => unfold chkE at h; cases h
theorem s_glob (i : Nat) : Snd nm G fe xa (.glob i) := by
  (refine snd_flat ?_ ?_ ?_ ?_ ?_ ?_ ?_; rotate_left 1; (intro N sc pe h env w; cases pe <;> first | rfl | (unfold chkE at h; cases h)); (intro N sc op xs pos; unfold chkE; rfl); (intro N sc xs; cases xs <;> (first | rfl | (unfold chkA; rfl))); (intro N sc xs; rcases xs with _ | ⟨_, _ | ⟨_, _⟩⟩ <;> (first | rfl | (unfold chkC; rfl))); (intro N sc tg x; unfold chkI; rfl); exact fun _ z => by cases z)
  intro X Wx g pe h
  cases pe with
  | Name x pos =>
    unfold chkE at h
    simp only [Bool.and_eq_true, decide_eq_true_eq] at h
    obtain ⟨⟨e, h1⟩, h2⟩ := h
    subst e
    obtain ⟨d, u, v, hG, hm, r, hr⟩ := g.glob i (by simpa using h2)
    obtain ⟨a1, a2⟩ := glob_vis h1
    refine (pe_glob a1 hm r a2).weak fun σ H Q q => tX_const (d := d) (fun _ => ?_) hr rfl q
    unfold evalE; rw [hG]; rfl
  | _ => unfold chkE at h; cases h
theorem s_tup {es : E} (s : Snd nm G fe xa es) : Snd nm G fe xa (.tup es) := by
  (refine snd_flat ?_ ?_ ?_ ?_ ?_ ?_ ?_; rotate_left 1; (intro N sc pe h env w; cases pe <;> first | rfl | (unfold chkE at h; cases h)); (intro N sc op xs pos; unfold chkE; rfl); (intro N sc xs; cases xs <;> (first | rfl | (unfold chkA; rfl))); (intro N sc xs; rcases xs with _ | ⟨_, _ | ⟨_, _⟩⟩ <;> (first | rfl | (unfold chkC; rfl))); (intro N sc tg x; unfold chkI; rfl); exact fun _ z => by cases z)
  intro X Wx g pe h
  cases pe with
  | Tuple xs kk pos =>
    unfold chkE at h
    simp only [Bool.and_eq_true, decide_eq_true_eq] at h
    exact e_tup h.1 (evalA_len h.2) (s.ar g xs h.2).1
  | _ => unfold chkE at h; cases h
theorem s_lst {es : E} (s : Snd nm G fe xa es) : Snd nm G fe xa (.lst es) := by
  (refine snd_flat ?_ ?_ ?_ ?_ ?_ ?_ ?_; rotate_left 1; (intro N sc pe h env w; cases pe <;> first | rfl | (unfold chkE at h; cases h)); (intro N sc op xs pos; unfold chkE; rfl); (intro N sc xs; cases xs <;> (first | rfl | (unfold chkA; rfl))); (intro N sc xs; rcases xs with _ | ⟨_, _ | ⟨_, _⟩⟩ <;> (first | rfl | (unfold chkC; rfl))); (intro N sc tg x; unfold chkI; rfl); exact fun _ z => by cases z)
  intro X Wx g pe h
  cases pe with
  | List xs pos =>
    unfold chkE at h
    simp only [Bool.and_eq_true, decide_eq_true_eq] at h
    exact e_lst h.1 (evalA_len h.2) (s.ar g xs h.2).1
  | _ => unfold chkE at h; cases h
theorem s_dnew : Snd nm G fe xa .dnew := by
  (refine snd_flat ?_ ?_ ?_ ?_ ?_ ?_ ?_; rotate_left 1; (intro N sc pe h env w; cases pe <;> first | rfl | (unfold chkE at h; cases h)); (intro N sc op xs pos; unfold chkE; rfl); (intro N sc xs; cases xs <;> (first | rfl | (unfold chkA; rfl))); (intro N sc xs; rcases xs with _ | ⟨_, _ | ⟨_, _⟩⟩ <;> (first | rfl | (unfold chkC; rfl))); (intro N sc tg x; unfold chkI; rfl); exact fun _ z => by cases z)
  intro X Wx g pe h
  cases pe with
  | Dict xs ys pos =>
    cases xs with
    | nil =>
      cases ys with
      | nil => exact e_dnew
      | cons _ _ => unfold chkE at h; cases h
    | cons _ _ => unfold chkE at h; cases h
  | _ => unfold chkE at h; cases h
theorem s_op (o : Op2) {a b : E} (sa : Snd nm G fe xa a) (sb : Snd nm G fe xa b) : Snd nm G fe xa (.op o a b) := by
  (refine snd_flat ?_ ?_ ?_ ?_ ?_ ?_ ?_; rotate_left 1; (intro N sc pe h env w; cases pe <;> first | rfl | (unfold chkE at h; cases h)); (intro N sc op xs pos; unfold chkE; rfl); (intro N sc xs; cases xs <;> (first | rfl | (unfold chkA; rfl))); (intro N sc xs; rcases xs with _ | ⟨_, _ | ⟨_, _⟩⟩ <;> (first | rfl | (unfold chkC; rfl))); (intro N sc tg x; unfold chkI; rfl); exact fun _ z => by cases z)
  intro X Wx g pe h
  cases pe with
  | BinOp x p y pos =>
    unfold chkE at h
    simp only [Bool.and_eq_true] at h
    exact pe_2 h.1.1 (sa.eb g x h.1.2) (sb.eb g y h.2)
  | _ => unfold chkE at h; cases h
theorem s_idx {a b : E} (sa : Snd nm G fe xa a) (sb : Snd nm G fe xa b) : Snd nm G fe xa (.idx a b) := by
  (refine snd_flat ?_ ?_ ?_ ?_ ?_ ?_ ?_; rotate_left 1; (intro N sc pe h env w; cases pe <;> first | rfl | (unfold chkE at h; cases h)); (intro N sc op xs pos; unfold chkE; rfl); (intro N sc xs; cases xs <;> (first | rfl | (unfold chkA; rfl))); (intro N sc xs; rcases xs with _ | ⟨_, _ | ⟨_, _⟩⟩ <;> (first | rfl | (unfold chkC; rfl))); (intro N sc tg x; unfold chkI; rfl); exact fun _ z => by cases z)
  intro X Wx g pe h
  cases pe with
  | Subscript x y pos =>
    unfold chkE at h
    simp only [Bool.and_eq_true] at h
    exact e_idx g h.1.1 (sa.eb g x h.1.2) (sb.ee g y h.2)
  | _ => unfold chkE at h; cases h
theorem s_slc {a b c : E} (sa : Snd nm G fe xa a) (sb : Snd nm G fe xa b) (sc : Snd nm G fe xa c) : Snd nm G fe xa (.slc a b c) := by
  (refine snd_flat ?_ ?_ ?_ ?_ ?_ ?_ ?_; rotate_left 1; (intro N sc pe h env w; cases pe <;> first | rfl | (unfold chkE at h; cases h)); (intro N sc op xs pos; unfold chkE; rfl); (intro N sc xs; cases xs <;> (first | rfl | (unfold chkA; rfl))); (intro N sc xs; rcases xs with _ | ⟨_, _ | ⟨_, _⟩⟩ <;> (first | rfl | (unfold chkC; rfl))); (intro N sc tg x; unfold chkI; rfl); exact fun _ z => by cases z)
  intro X Wx g pe h
  cases pe with
  | Subscript x y pos =>
    cases y with
    | Slice l u st p2 =>
      cases st with
      | none =>
        unfold chkE at h
        simp only [Bool.and_eq_true] at h
        exact e_slc (sa.eb g x h.1.1) h.1.2 h.2 (fun x hx => sb.ee g x hx) (fun x hx => sc.ee g x hx)
      | some _ => unfold chkE at h; cases h
    | _ => unfold chkE at h; cases h
  | _ => unfold chkE at h; cases h
end G7

namespace G7
open L2 PyProof.Rows PySem.Spec PySem
/-! ### sets of texts: set(xs), sorted(set) -/
def keyT (e : Int × Value) : Str := match e.2 with
  | .str k _ => k
  | _ => Str.empty
def GoodT (w : World) (e : Int × Value) : Prop := ∃ k u, e.2 = Value.str k u ∧ e.1 = hashStr w k
/-- the set at a holds the texts l, in some order; its table can be walked -/
def TxtSet (w : World) (h : Heap) (a : Addr) (l : List Str) : Prop :=
  ∃ o es ep t, h.get? a = some o ∧ o.ExactSet ∧ o.data = .set es ep t ∧ (∀ e ∈ es.toList, GoodT w e) ∧ (es.toList.map keyT).Perm l ∧ l.Nodup ∧ es.size < scanBound ∧ t.fits es.size = true ∧ Ris t.place.toList ∧ (w.params.followText "set-order" = true ∨ t.led = true)
section
variable {P : Program} {w : World} {h h' : Heap} {a : Addr} {l : List Str}
theorem TxtSet.at (R : TxtSet w h a l) (k : ∀ o, h.get? a = some o → h'.get? a = some o) : TxtSet w h' a l := by
  obtain ⟨o, es, ep, t, ho, r⟩ := R
  exact ⟨o, es, ep, t, k o ho, r⟩
theorem goodT_elems {es : List (Int × Value)} (g : ∀ e ∈ es, GoodT w e) : ElemsOf (PySem.strKind P w) es := fun e he => by
  obtain ⟨k, u, h1, h2⟩ := g e he
  exact ⟨⟨k, by rw [h1]; exact strKind_is P w k u, h2⟩, by rw [h1] <;> rfl⟩
theorem goodT_is {e : Int × Value} (g : GoodT w e) (k : Str) : (PySem.strKind P w).is k e.2 = true ↔ keyT e = k := by
  obtain ⟨k0, u, h1, _⟩ := g
  unfold keyT
  rw [h1]
  constructor
  · intro z
    exact (PySem.strKind P w).inj (.str k0 u) k0 k (strKind_is P w k0 u) z
  · rintro rfl
    exact strKind_is P w _ u
theorem goodT_mem {es : List (Int × Value)} (g : ∀ e ∈ es, GoodT w e) (k : Str) : k ∈ es.map keyT ↔ ∃ e ∈ es, (PySem.strKind P w).is k e.2 = true := by
  rw [List.mem_map]
  exact ⟨fun ⟨e, he, q⟩ => ⟨e, he, (goodT_is (g e he) k).2 q⟩, fun ⟨e, he, q⟩ => ⟨e, he, (goodT_is (g e he) k).1 q⟩⟩
end
section
variable {P : Program} {w : World} {A : Around} {E : Value → Shared → Prop} {s : Shared} {a : Addr} {l : List Str}
theorem storeT {h : Heap} {o : Obj} {es es' : Array (Int × Value)} {ep : Nat} {t t' : SetTable} (ho : h.get? a = some o) (hd : o.data = .set es ep t) :
    (h.update a (Obj.putSet es' t')).get? a = some { o with data := .set es' (ep + 1) t' } := by
  have q := Heap.get?_update_self (Obj.putSet es' t') ho (by rw [putSet_of es' t' hd]; rfl)
  rwa [putSet_of es' t' hd] at q
theorem txt_tail {g : Bool → Sem Unit} (hg : ∀ (b : Bool) (s₁ : Shared) (Q' : Unit → Shared → Prop), Q' () s₁ → wpAny (model P w) A (g b) Q' E s₁)
    {o : Obj} {es : Array (Int × Value)} {ep : Nat} {t : SetTable} (ho : s.heap.get? a = some o) (hex : o.ExactSet) (hd : o.data = .set es ep t)
    {es1 : Array (Int × Value)} {t2 : SetTable} {m : List Str} (g1 : ∀ e ∈ es1.toList, GoodT w e) (pm1 : (es1.toList.map keyT).Perm m) (nd : m.Nodup)
    (hb1 : es1.size < scanBound) (hf2 : t2.fits es1.size = true) (hr : Ris t2.place.toList) (hl : w.params.followText "set-order" = true ∨ t2.led = true) {wasDummy : Bool} {R : Option Bool → Shared → Prop}
    (hR : ∀ h', Heap.SameBut a s.heap h' → TxtSet w h' a m → R (some true) { s with heap := h' }) :
    wpAny (model P w) A (do
        storeSet a es1 t2
        if (!wasDummy && t2.tooFull) = true then do
            g (relayAll t2 es1 (SetTable.grown es1.size)).2.2
            storeSet a (relayAll t2 es1 (SetTable.grown es1.size)).1 (relayAll t2 es1 (SetTable.grown es1.size)).2.1
            pure (some true)
          else pure (some true)) R E s := by
  have k1 := storeT (es' := es1) (t' := t2) ho hd
  have sb := Heap.SameBut.update s.heap a (Obj.putSet es1 t2)
  refine wpAny_bind (wpAny_storeSet_of ho hd ?_ (fits_of_scanBound hb1))
  split
  · have p2 := relayAll_perm t2 es1 (SetTable.grown es1.size)
    have f2 := relayAll_fits t2 es1 (SetTable.grown es1.size)
    have r2 := relayAll_ris t2 es1 (SetTable.grown es1.size)
    have l2 := relayAll_led t2 es1 (SetTable.grown es1.size)
    revert p2 f2 r2 l2
    rcases relayAll t2 es1 (SetTable.grown es1.size) with ⟨es2, t3, gave⟩
    intro p2 f2 r2 l2
    have e2 : es2.size = es1.size := by simpa using p2.length_eq
    have hb2 : es2.size < scanBound := by omega
    refine wpAny_bind (hg _ _ _ (wpAny_bind (wpAny_storeSet_of k1 rfl ?_ (fits_of_scanBound hb2))))
    have k2 := storeT (es' := es2) (t' := t3) k1 rfl
    exact wpAny_pure (hR _ (sb.trans (Heap.SameBut.update _ a _)) ⟨_, es2, _, t3, k2, hex, rfl, fun e he => g1 e (p2.mem_iff.mp he), (p2.map keyT).trans pm1, nd, hb2, f2, r2, hl.imp id fun z => l2.trans z⟩)
  · exact wpAny_pure (hR _ sb ⟨_, es1, _, t2, k1, hex, rfl, g1, pm1, nd, hb1, hf2, hr, hl⟩)
/-- one text more -/
def addS (l : List Str) (k : Str) : List Str := if k ∈ l then l else k :: l
theorem txt_add {k : Str} {u : Tok} {Q : Bool → Shared → Prop} (R : TxtSet w s.heap a l) (room : l.length + 1 < scanBound)
    (hQ : ∀ b h', Heap.SameBut a s.heap h' → TxtSet w h' a (addS l k) → Q b { s with heap := h' }) :
    wpAny (model P w) A (setAddHashed a (.str k u) ((PySem.strKind P w).hash k)) Q E s := by
  obtain ⟨o, es, ep, t, ho, hex, hd, g, pm0, nd, hb, hf, hr, hl⟩ := R
  have hkey : (PySem.strKind P w).is k (.str k u) = true := strKind_is P w k u
  have hsc : (Value.str k u).scannable = true := rfl
  have hel : ElemsOf (PySem.strKind P w) es.toList := goodT_elems g
  have hn : es.size = l.length := by simpa using pm0.length_eq
  unfold setAddHashed setAddHashedIn
  refine wpAny_holding (wpAny_bind (wpAny_setState_of ho hd hf ?_))
  dsimp only
  rw [byScan_of hsc hb hel]
  simp only [↓reduceIte]
  unfold setAddByScan
  refine wpAny_bind (wpAny_bind (wpAny_rule (wpAny_bind (wpAny_setScan_of hkey ho hd hf hel ?_))))
  cases hfi : List.findIdx? (fun e => (PySem.strKind P w).is k e.2) es.toList with
  | some j =>
    obtain ⟨hj, pj, _⟩ := List.findIdx?_eq_some_iff_getElem.mp hfi
    have hk : k ∈ l := pm0.mem_iff.mp ((goodT_mem (P := P) (w := w) g k).2 ⟨es.toList[j], List.getElem_mem hj, pj⟩)
    have ea : addS l k = l := if_pos hk
    dsimp only
    exact wpAny_pure (wpAny_pure (hQ _ s.heap (Heap.SameBut.refl a s.heap) (by rw [ea]; exact ⟨o, es, ep, t, ho, hex, hd, g, pm0, nd, hb, hf, hr, hl⟩)))
  | none =>
    have hnk : k ∉ es.toList.map keyT := fun z => by
      obtain ⟨e, he, q⟩ := (goodT_mem (P := P) (w := w) g k).1 z
      have c := List.findIdx?_eq_none_iff.mp hfi e he
      rw [q] at c
      cases c
    have hk : k ∉ l := fun z => hnk (pm0.mem_iff.mpr z)
    have ea : addS l k = k :: l := if_neg hk
    rw [ea] at hQ
    have hgw : ∀ (b : Bool) {s₁ : Shared} {Q' : Unit → Shared → Prop}, Q' () s₁ → wpAny (model P w) A (match b with | true => rule "set.scan.the-table-gave-way" | false => pure ()) Q' E s₁ :=
      fun b s₁ Q' q => by cases b <;> first | exact wpAny_pure q | exact wpAny_rule q
    have pm := layNew_perm t es ((PySem.strKind P w).hash k) (.str k u)
    have hf1 := layNew_fits t es ((PySem.strKind P w).hash k) (.str k u)
    have hr1 := layNew_ris t es ((PySem.strKind P w).hash k) (.str k u) hr
    have hl1 := layNew_led t es ((PySem.strKind P w).hash k) (.str k u)
    dsimp only
    generalize layNew t es ((PySem.strKind P w).hash k) (.str k u) = Z at pm hf1 hr1 hl1 ⊢
    obtain ⟨es1, t1, wasDummy, gave⟩ := Z
    dsimp only at pm hf1 hr1 hl1 ⊢
    rw [Array.toList_push] at pm
    have pc : es1.toList.Perm (((PySem.strKind P w).hash k, Value.str k u) :: es.toList) := pm.trans (List.perm_append_singleton _ _)
    have g1 : ∀ e ∈ es1.toList, GoodT w e := fun e he => by
      rcases List.mem_cons.mp (pc.mem_iff.mp he) with z | z
      · rw [z]; exact ⟨k, u, rfl, rfl⟩
      · exact g e z
    have pk : (es1.toList.map keyT).Perm (k :: l) := (pc.map keyT).trans (pm0.cons k)
    have nd1 : (k :: l).Nodup := List.nodup_cons.mpr ⟨hk, nd⟩
    have hsz : es1.size = l.length + 1 := by have := pk.length_eq; simpa using this
    have hb1 : es1.size < scanBound := by omega
    have hled : w.params.followText "set-order" = true ∨ t1.led = true := hl.imp id fun z => hl1.trans z
    refine wpAny_bind (hgw _ ?_)
    split
    · refine wpAny_bind ?_
      rw [hashByValue_scannable 8 hsc]
      refine wpAny_pure (txt_tail ?_ ho hex hd g1 pk nd1 hb1 ?_ ?_ ?_ ?_)
      · intro b s₁ Q' q; cases b <;> first | exact wpAny_pure q | exact wpAny_rule q
      · first | (split <;> first | exact hf1 | exact SetTable.fits_plain_off hf1) | exact hf1
      · first | (split <;> exact hr1) | exact hr1
      · first | (split <;> exact hled) | exact hled
      · intro h' sb r; dsimp only; exact wpAny_pure (hQ _ h' sb r)
    · refine wpAny_bind (wpAny_pure ?_)
      simp only [↓reduceIte]
      refine txt_tail ?_ ho hex hd g1 pk nd1 hb1 hf1 hr1 hled ?_
      · intro b s₁ Q' q; cases b <;> first | exact wpAny_pure q | exact wpAny_rule q
      · intro h' sb r; dsimp only; exact wpAny_pure (hQ _ h' sb r)
theorem addS_mem {l : List Str} {k x : Str} : x ∈ addS l k ↔ x ∈ l ∨ x = k := by
  unfold addS
  split
  · rename_i h
    exact ⟨.inl, fun z => z.elim id fun e => e ▸ h⟩
  · rw [List.mem_cons]; exact Or.comm
theorem addS_len (l : List Str) (k : Str) : (addS l k).length ≤ l.length + 1 := by
  unfold addS
  split
  · omega
  · simp
end
section
variable {prog : Program} {w : World} {A : Around} {R : Result → Shared → Prop} {I : Addr} {fp wr : List Addr} {G : Array GenState → Array GenState → Prop} {n : Nat} {P : Nat → Value → Prop} {St : Nat → Shared → Prop}
/-- the texts met so far -/
def met (xs : List Str) : List Str := xs.foldl addS []
theorem met_snoc (xs : List Str) (x : Str) : met (xs ++ [x]) = addS (met xs) x := by unfold met; rw [List.foldl_append]; rfl
theorem met_len (xs : List Str) : (met xs).length ≤ xs.length := by
  have key : ∀ (xs l : List Str), (xs.foldl addS l).length ≤ l.length + xs.length := by
    intro xs
    induction xs with
    | nil => intro l; exact Nat.le_refl _
    | cons x xs ih =>
      intro l
      have h1 := ih (addS l x)
      have h2 := addS_len l x
      rw [List.foldl_cons, List.length_cons]
      omega
  have := key xs []
  simpa [met] using this
theorem met_mem (xs : List Str) (y : Str) : y ∈ met xs ↔ y ∈ xs := by
  have key : ∀ (xs l : List Str), y ∈ xs.foldl addS l ↔ y ∈ l ∨ y ∈ xs := by
    intro xs
    induction xs with
    | nil => intro l; simp
    | cons x xs ih =>
      intro l
      rw [List.foldl_cons, ih, addS_mem, List.mem_cons]
      constructor
      · rintro ((h | h) | h)
        · exact .inl h
        · exact .inr (.inl h)
        · exact .inr (.inr h)
      · rintro (h | h | h)
        · exact .inl (.inl h)
        · exact .inl (.inr h)
        · exact .inr h
  have := key xs []
  simpa [met] using this
theorem met_nodup (xs : List Str) : (met xs).Nodup := by
  have key : ∀ (xs l : List Str), l.Nodup → (xs.foldl addS l).Nodup := by
    intro xs
    induction xs with
    | nil => intro l h; exact h
    | cons x xs ih =>
      intro l h
      refine ih _ ?_
      unfold addS
      split
      · exact h
      · rename_i hx
        exact List.nodup_cons.mpr ⟨hx, h⟩
  exact key xs [] List.nodup_nil
theorem txt_loop (W : WalksS prog w A.in1 I fp wr G n P St) (S : Addr) (hSf : S ∉ fp) (xs : List Str) (hsz : xs.length = n) (hn64 : n < 64)
    (hval : ∀ i v, P i v → ∃ t, v = .str (xs.getD i Str.empty) t) :
    ∀ (k i : Nat) (s : Shared), n - i = k → i ≤ n → St i s → TxtSet w s.heap S (met (xs.take i)) →
      (∀ s', Moved (S :: wr) G s s' → TxtSet w s'.heap S (met xs) → R (.ok (.ret .none)) s') →
      codeAny (model prog w) A (.builtin "set.update.loop" ⟨[.ref S, .ref I], []⟩) R s := by
  have hSw : S ∉ wr := fun h => hSf (W.sub _ h)
  have hsub : ∀ b ∈ wr, b ∈ S :: wr := fun b hb => List.mem_cons_of_mem _ hb
  intro k
  induction k with
  | zero =>
    intro i s hk hi hst hS hR
    obtain rfl : i = n := by omega
    have ht : xs.take i = xs := List.take_of_length_le (by omega)
    rw [ht] at hS
    refine codeAny_builtin PyProof.Rows.F.entry_set_update_loop ?_
    rw [Around.under_plainId PyProof.Rows.F.plain_set_update_loop _]
    show wpAny _ A.in1 (pyNext (.ref I) >>= _) _ _ s
    refine wpAny_bind (W.done s _ _ hst fun s' hm => ?_)
    show wpAny _ A.in1 (ret Value.none) _ _ s'
    exact wpAny_pure (hR s' (hm.mono hsub) (hS.at fun o ho => hm.heap S _ hSw ho))
  | succ k ih =>
    intro i s hk hi hst hS hR
    have hlt : i < n := by omega
    refine codeAny_builtin PyProof.Rows.F.entry_set_update_loop ?_
    rw [Around.under_plainId PyProof.Rows.F.plain_set_update_loop _]
    show wpAny _ A.in1 (pyNext (.ref I) >>= _) _ _ s
    refine wpAny_bind (W.item i s _ _ hlt hst fun v s' hP hst' hm => ?_)
    obtain ⟨t, rfl⟩ := hval i v hP
    have hS' : TxtSet w s'.heap S (met (xs.take i)) := hS.at fun o ho => hm.heap S _ hSw ho
    have hml := met_len (xs.take i)
    have htl : (xs.take i).length ≤ i := by rw [List.length_take]; omega
    show wpAny _ A.in1 (holding [Value.str (xs.getD i Str.empty) t] (setAdd S (.str (xs.getD i Str.empty) t)) >>= _) _ _ s'
    refine wpAny_bind (wpAny_holding ?_)
    unfold setAdd
    refine wpAny_holding ?_
    refine wpAny_bind ((PySem.strKind prog w).pyHash (k := xs.getD i Str.empty) (strKind_is _ _ _ _) ?_)
    refine txt_add (s := { s' with toks := s'.toks + 1 }) hS' (by unfold scanBound; omega) fun b h' hsb hS2 => ?_
    have hnext : addS (met (xs.take i)) (xs.getD i Str.empty) = met (xs.take (i + 1)) := by
      rw [← met_snoc]
      congr 1
      rw [List.take_succ, List.getElem?_eq_getElem (by omega)]
      simp [List.getElem?_eq_getElem (show i < xs.length by omega)]
    rw [hnext] at hS2
    refine wpAny_pure ⟨plainId_quiet PyProof.Rows.F.plain_set_update_loop _, ih (i + 1) _ (by omega) hlt (W.frame _ s' _ _ hst' (Nat.le_succ _) fun b hb o e => ?_) hS2 fun s'' hm'' hS'' => ?_⟩
    · rw [hsb.2 b (fun h : b = S => hSf (by rw [← h]; exact hb))]; exact e
    · refine hR s'' (Moved.trans W.gtrans ((hm.mono hsub).then_heap (Nat.le_succ _) fun b o hb e => ?_) hm'') hS''
      rw [hsb.2 b (fun h : b = S => hb (by rw [h]; exact List.mem_cons_self))]; exact e
end
section
variable {prog : Program} {w : World} {A : Around} {E : Value → Shared → Prop} {s : Shared}
/-- a new set -/
abbrev newS (w : World) : Obj := { cls := .type "set", dict := none, data := .set #[] 0 (.fresh 0 0 (!w.params.followText "set-order")) }
theorem txt_fresh {h : Heap} {a : Addr} (ho : h.get? a = some (newS w)) : TxtSet w h a [] :=
  ⟨_, #[], 0, _, ho, ⟨rfl, rfl, rfl⟩, rfl, (fun e he => by simp at he), List.Perm.nil, List.nodup_nil, (by decide), (by rfl), List.Pairwise.nil, by
    show _ ∨ (!w.params.followText "set-order") = true
    cases w.params.followText "set-order"
    · exact .inr rfl
    · exact .inl rfl⟩
theorem call_txt_set {l : Addr} {items : Array Value} {xs : List Str} {Q : Value → Shared → Prop}
    (hh : A.handled = none) (hl : s.heap.IsList l items) (hi : PyProof.Rows.StrsAre items.toList xs) (h64 : xs.length < 64)
    (h : ∀ (h' : Heap) (tk : Nat), TxtSet w h' s.heap.objs.size (met xs) → (∀ b o, s.heap.get? b = some o → h'.get? b = some o) → Q (.ref s.heap.objs.size) { s with heap := h', toks := tk }) :
    wpAny (model prog w) A (call (.type "set") [.ref l]) Q E s := by
  obtain ⟨c, tl, hmro⟩ := PySem.F.called_set.mro
  have hmade := PySem.F.called_set.made
  have hsub := PySem.F.called_set.sub
  refine wpAny_call (codeAny_of_tree ?_)
  show wpAny _ _ (callAny (.type "set") _) _ _ _
  refine wpAny_pure ⟨Code.quiet_builtin _ (by decide +kernel), codeAny_builtin PySem.F.entry_type_call ?_⟩
  rw [Around.under_plain (weight_type_call_type "set" [.ref l] []) rfl]
  have h1 := PySem.F.called_set.notType
  have h2 := PySem.F.called_set.canCreate
  have hct := PySem.F.typeCall_set_1 (.ref l)
  repeat (any_goals (first | assumption | wp_step))
  refine codeAny_mono (code_set_led1 (.ref l) (E := E) (Q₁ := fun obj s₁ => obj = .ref s.heap.objs.size ∧ s₁ = { s with heap := s.heap.push (newS w) }) ⟨rfl, rfl⟩) fun r s₁ hr => ?_
  cases r with
  | error e => exact hr
  | ok fl =>
    cases fl with
    | ret obj =>
      obtain ⟨rfl, rfl⟩ := hr
      have hS : (s.heap.push (newS w)).get? s.heap.objs.size = some (newS w) := Heap.get?_push_size _ rfl
      have hT : Shared.TypeIs { s with heap := s.heap.push (newS w) } (.ref s.heap.objs.size) "set" := ⟨_, hS, rfl⟩
      have hli := PySem.F.called_set.init.lookup
      have hbi := PySem.F.called_set.init.bind (.ref s.heap.objs.size)
      repeat (any_goals (first | assumption | wp_step))
      refine codeAny_mono (codeAny_call_builtin (R := wants (fun r s₂ => r = .none ∧ ∃ h' tk, s₂ = { s with heap := h', toks := tk } ∧ TxtSet w h' s.heap.objs.size (met xs) ∧
          (∀ b o, s.heap.get? b = some o → h'.get? b = some o)) E) PySem.F.called_set.init.plain PySem.F.entry_set_init (check_set_init_1 hT ?_)) fun r₂ s₂ hr₂ => ?_
      · obtain ⟨ol, hol, hcl, nl, hdl⟩ := hl
        obtain ⟨ocls, odict, odata, oslots⟩ := ol
        simp only at hcl hdl
        subst hcl; subst hdl
        have hol' : (s.heap.push (newS w)).get? l = some { cls := .type "list", dict := odict, data := .seq items nl, slots := oslots } := Heap.get?_push_of_some _ hol
        have hsls := PySem.F.sub_list_set
        have hslf := PySem.F.sub_list_frozenset
        have hne : (Value.type "list" == Value.type "dict") = false := by decide
        have hl1 : (s.heap.push (newS w)).IsList l items := ⟨_, hol', rfl, nl, rfl⟩
        unfold Builtin.«set.__init__» noKeywords Builtin.Frozenset.updateFrom
        generalize hPI : pyIter = PI
        wp_walk
        subst hPI
        refine wpAny_pyIter_list hl1 ?_
        refine wpAny_bind (wpAny_runValue ?_)
        have hlS : l < s.heap.objs.size := Heap.lt_size hol
        have hh3 : A.in1.in1.in1.handled = none := by simp [hh]
        have hneI : l ≠ (s.heap.push (newS w)).objs.size := by
          rw [Heap.size_push]
          exact Nat.ne_of_lt (Nat.lt_succ_of_lt hlS)
        have hSf : s.heap.objs.size ∉ [(s.heap.push (newS w)).objs.size, l] := by
          rw [Heap.size_push]
          simp only [List.mem_cons, List.not_mem_nil, or_false, not_or]
          exact ⟨Nat.ne_of_lt (Nat.lt_succ_self _), Nat.ne_of_gt hlS⟩
        have hsz : xs.length = items.size := by rw [← StrsAre.len_eq hi, Array.length_toList]
        have hval : ∀ (i : Nat) (v : Value), items[i]? = some v → ∃ t, v = .str (xs.getD i Str.empty) t := fun i v hv => SS.strs_at hi i v (by rw [Array.getElem?_toList]; exact hv)
        refine txt_loop ((Walks.list hh3 _ l hneI items).toS) s.heap.objs.size hSf xs hsz (by rw [← hsz]; exact h64) hval (items.size - 0) 0 _ (by omega) (Nat.zero_le _)
          ⟨⟨_, Heap.get?_push_size _ rfl, rfl, rfl⟩, (hl1.push _)⟩ ?hS0 ?hR
        case hS0 => exact txt_fresh (Heap.get?_push_of_some _ hS)
        case hR =>
          intro s' hm hS'
          obtain ⟨h', g', d', tk', os'⟩ := s'
          have eg : g' = s.gens := hm.gens
          have ed : d' = s.drawn := hm.drawn
          have eo : os' = s.os := hm.os
          subst eg; subst ed; subst eo
          show wpAny _ _ _ _ _ _
          refine wpAny_pure ?_
          show wpAny _ _ (ret Value.none) _ _ _
          refine wpAny_pure ⟨rfl, h', tk', rfl, hS', fun b o e => ?_⟩
          have hb : b < s.heap.objs.size := Heap.lt_size e
          refine hm.heap b o ?_ (Heap.get?_push_of_some _ (Heap.get?_push_of_some _ e))
          rw [Heap.size_push]
          simp only [List.mem_cons, List.not_mem_nil, or_false, not_or]
          exact ⟨Nat.ne_of_lt hb, Nat.ne_of_lt (Nat.lt_succ_of_lt hb)⟩
      · cases r₂ with
        | error e => exact hr₂
        | ok fl₂ =>
          cases fl₂ with
          | ret r =>
            obtain ⟨rfl, h', tk, rfl, hS', hk'⟩ := hr₂
            repeat (any_goals (first | assumption | wp_step))
            exact h _ _ hS' hk'
          | _ => exact hr₂.elim
    | _ => exact hr.elim
theorem call_txt_setT {l : Addr} {items : Array Value} {xs : List Str} {Q : Value → Shared → Prop}
    (hh : A.handled = none) (hl : s.heap.IsTuple l items) (hi : PyProof.Rows.StrsAre items.toList xs) (h64 : xs.length < 64)
    (h : ∀ (h' : Heap) (tk : Nat), TxtSet w h' s.heap.objs.size (met xs) → (∀ b o, s.heap.get? b = some o → h'.get? b = some o) → Q (.ref s.heap.objs.size) { s with heap := h', toks := tk }) :
    wpAny (model prog w) A (call (.type "set") [.ref l]) Q E s := by
  obtain ⟨c, tl, hmro⟩ := PySem.F.called_set.mro
  have hmade := PySem.F.called_set.made
  have hsub := PySem.F.called_set.sub
  refine wpAny_call (codeAny_of_tree ?_)
  show wpAny _ _ (callAny (.type "set") _) _ _ _
  refine wpAny_pure ⟨Code.quiet_builtin _ (by decide +kernel), codeAny_builtin PySem.F.entry_type_call ?_⟩
  rw [Around.under_plain (weight_type_call_type "set" [.ref l] []) rfl]
  have h1 := PySem.F.called_set.notType
  have h2 := PySem.F.called_set.canCreate
  have hct := PySem.F.typeCall_set_1 (.ref l)
  repeat (any_goals (first | assumption | wp_step))
  refine codeAny_mono (code_set_led1 (.ref l) (E := E) (Q₁ := fun obj s₁ => obj = .ref s.heap.objs.size ∧ s₁ = { s with heap := s.heap.push (newS w) }) ⟨rfl, rfl⟩) fun r s₁ hr => ?_
  cases r with
  | error e => exact hr
  | ok fl =>
    cases fl with
    | ret obj =>
      obtain ⟨rfl, rfl⟩ := hr
      have hS : (s.heap.push (newS w)).get? s.heap.objs.size = some (newS w) := Heap.get?_push_size _ rfl
      have hT : Shared.TypeIs { s with heap := s.heap.push (newS w) } (.ref s.heap.objs.size) "set" := ⟨_, hS, rfl⟩
      have hli := PySem.F.called_set.init.lookup
      have hbi := PySem.F.called_set.init.bind (.ref s.heap.objs.size)
      repeat (any_goals (first | assumption | wp_step))
      refine codeAny_mono (codeAny_call_builtin (R := wants (fun r s₂ => r = .none ∧ ∃ h' tk, s₂ = { s with heap := h', toks := tk } ∧ TxtSet w h' s.heap.objs.size (met xs) ∧
          (∀ b o, s.heap.get? b = some o → h'.get? b = some o)) E) PySem.F.called_set.init.plain PySem.F.entry_set_init (check_set_init_1 hT ?_)) fun r₂ s₂ hr₂ => ?_
      · obtain ⟨ol, hol, hcl, nl, hdl⟩ := hl
        obtain ⟨ocls, odict, odata, oslots⟩ := ol
        simp only at hcl hdl
        subst hcl; subst hdl
        have hol' : (s.heap.push (newS w)).get? l = some { cls := .type "tuple", dict := odict, data := .seq items nl, slots := oslots } := Heap.get?_push_of_some _ hol
        have hsls := PySem.F.sub_tuple_set
        have hslf := PySem.F.sub_tuple_frozenset
        have hne : (Value.type "tuple" == Value.type "dict") = false := by decide
        have hl1 : (s.heap.push (newS w)).IsTuple l items := ⟨_, hol', rfl, nl, rfl⟩
        unfold Builtin.«set.__init__» noKeywords Builtin.Frozenset.updateFrom
        generalize hPI : pyIter = PI
        wp_walk
        subst hPI
        refine wpAny_pyIter_tuple hl1 ?_
        refine wpAny_bind (wpAny_runValue ?_)
        have hlS : l < s.heap.objs.size := Heap.lt_size hol
        have hh3 : A.in1.in1.in1.handled = none := by simp [hh]
        have hneI : l ≠ (s.heap.push (newS w)).objs.size := by
          rw [Heap.size_push]
          exact Nat.ne_of_lt (Nat.lt_succ_of_lt hlS)
        have hSf : s.heap.objs.size ∉ [(s.heap.push (newS w)).objs.size, l] := by
          rw [Heap.size_push]
          simp only [List.mem_cons, List.not_mem_nil, or_false, not_or]
          exact ⟨Nat.ne_of_lt (Nat.lt_succ_self _), Nat.ne_of_gt hlS⟩
        have hsz : xs.length = items.size := by rw [← StrsAre.len_eq hi, Array.length_toList]
        have hval : ∀ (i : Nat) (v : Value), items[i]? = some v → ∃ t, v = .str (xs.getD i Str.empty) t := fun i v hv => SS.strs_at hi i v (by rw [Array.getElem?_toList]; exact hv)
        refine txt_loop ((Walks.tuple hh3 _ l hneI items).toS) s.heap.objs.size hSf xs hsz (by rw [← hsz]; exact h64) hval (items.size - 0) 0 _ (by omega) (Nat.zero_le _)
          ⟨⟨_, Heap.get?_push_size _ rfl, rfl, rfl⟩, (hl1.push _)⟩ ?hS0 ?hR
        case hS0 => exact txt_fresh (Heap.get?_push_of_some _ hS)
        case hR =>
          intro s' hm hS'
          obtain ⟨h', g', d', tk', os'⟩ := s'
          have eg : g' = s.gens := hm.gens
          have ed : d' = s.drawn := hm.drawn
          have eo : os' = s.os := hm.os
          subst eg; subst ed; subst eo
          show wpAny _ _ _ _ _ _
          refine wpAny_pure ?_
          show wpAny _ _ (ret Value.none) _ _ _
          refine wpAny_pure ⟨rfl, h', tk', rfl, hS', fun b o e => ?_⟩
          have hb : b < s.heap.objs.size := Heap.lt_size e
          refine hm.heap b o ?_ (Heap.get?_push_of_some _ (Heap.get?_push_of_some _ e))
          rw [Heap.size_push]
          simp only [List.mem_cons, List.not_mem_nil, or_false, not_or]
          exact ⟨Nat.ne_of_lt hb, Nat.ne_of_lt (Nat.lt_succ_of_lt hb)⟩
      · cases r₂ with
        | error e => exact hr₂
        | ok fl₂ =>
          cases fl₂ with
          | ret r =>
            obtain ⟨rfl, h', tk, rfl, hS', hk'⟩ := hr₂
            repeat (any_goals (first | assumption | wp_step))
            exact h _ _ hS' hk'
          | _ => exact hr₂.elim
    | _ => exact hr.elim
/-- the values of a set of texts -/
theorem strs_of_keys : ∀ (vs : List Value), (∀ v ∈ vs, ∃ k u, v = Value.str k u) → PyProof.Rows.StrsAre vs (vs.map fun v => match v with | .str k _ => k | _ => Str.empty)
  | [], _ => .nil
  | v :: vs, h => by
    obtain ⟨k, u, rfl⟩ := h v List.mem_cons_self
    exact .cons k u (strs_of_keys vs fun x hx => h x (List.mem_cons_of_mem _ hx))
theorem sorted_txt {a : Addr} {l : List Str} {Q : Value → Shared → Prop} (R : TxtSet w s.heap a l) (hh : A.handled = none) (h64 : l.length < 64)
    (hQ : ∀ s' p (out : Array Value) (c : Nat) (ys : List Str), (∀ b o, s.heap.get? b = some o → s'.heap.get? b = some o) → s'.gens = s.gens → s'.os = s.os → s.heap.objs.size ≤ p →
      s'.heap.get? p = some (seqObj "list" out c) → PyProof.Rows.StrsAre out.toList ys → ys.Perm l → sortedS ys = true → Q (.ref p) s') :
    wpAny (model prog w) A (call (.builtin "sorted") [.ref a]) Q E s := by
  obtain ⟨o, es, ep, t, ho, hex, hd, g, pm0, nd, hb, hf, hr, hl⟩ := R
  have hn : es.size = l.length := by simpa using pm0.length_eq
  refine Calls.call_function_entry kind_sorted plain_sorted entry_sorted (args_sorted1 _) ?_
  unfold Builtin.«sorted»
  refine wpAny_bind (m := checkCount "sorted" 1 1 _) (wpAny_pure ?_)
  refine wpAny_bind (collect_set (A := A.in1) hh ⟨o, ho, hex.1, hd⟩ hf hb hr hl fun s1 vs k1 hz g1 o1 pm => ?_)
  have hvl : vs.length = l.length := by rw [pm.length_eq, List.length_map, Array.length_toList]; exact hn
  have hS := strs_of_keys vs fun v hv => by
    obtain ⟨e, he, q⟩ := List.mem_map.mp (pm.mem_iff.mp hv)
    obtain ⟨k, u, h1, _⟩ := g e he
    exact ⟨k, u, by rw [← q]; exact h1⟩
  have pk : (vs.map fun v => match v with | .str k _ => k | _ => Str.empty).Perm l := by
    have q := pm.map fun v => match v with | Value.str k _ => k | _ => Str.empty
    rw [List.map_map] at q
    exact q.trans pm0
  refine wpAny_bind (wpAny_newList ?_ (by rw [hvl, sizeLine_eq]; omega))
  have hoL : (s1.heap.push (seqObj "list" vs.toArray 0)).get? s1.heap.objs.size = some (seqObj "list" vs.toArray 0) := Heap.get?_push_size _ rfl
  refine wpAny_bind (wpAny_holding (wpAny_call_entry slot_list_sort ⟨_, hoL, rfl⟩ entry_list_sort (list_sort_treeK strKind_oneLt hoL hS.keysOf (fun v₁ v₂ rest e => keyKind_strs (by rw [← e]; exact hS)) (by rw [hvl]; exact h64) fun st' hp hs => ⟨_, rfl, ?_⟩) (args_list_sort _)))
  obtain ⟨ys, q1, q2, q3⟩ := sorted_out_str hS hp hs
  obtain ⟨c, hc⟩ := sortedHeap_at (vs := vs) (out := (arrOf st').map (·.2)) hoL
  refine wpAny_pure ⟨_, rfl, hQ _ s1.heap.objs.size _ c ys (fun b u e => ?_) g1 o1 hz hc q1 (q2.trans pk) q3⟩
  have q := k1 b u e
  have hlt := Heap.lt_size q
  show (sortedHeap (s1.heap.push (seqObj "list" vs.toArray 0)) s1.heap.objs.size vs _).get? b = some u
  rw [sortedHeap_old (Nat.ne_of_lt hlt) (by rw [size_push']; exact Nat.lt_succ_of_lt hlt)]
  exact Heap.get?_push_of_some _ q
end
end G7

namespace G7
open L2 PyProof.Rows PySem.Spec PySem
variable {nm : Nms} {G : Nat → Option D} {fe : Nat → List D → Res D} {xa : Str → Addr}
/-! ### sorted(set(xs)) of texts -/
def TxtO (w : World) (a : Addr) (l : List Str) : HO := .ext fun h => TxtSet w h a l
theorem txtO_new {P : Program} {w : World} {H : Hp} {h : Heap} {a : Addr} {l : List Str} (R : TxtSet w h a l) : ObjOk P w H h a (TxtO w a l) := by
  have ⟨o, es, ep, t, ho, r⟩ := R
  exact ⟨R, ⟨o, ho⟩, fun h1 h2 p k => p.at k⟩
section
variable {X : Cx}
def rSetTx (K : PySem.W.Frag) (w : World) : List V → Hp → VK → Prop := fun xs H Q => ∃ (l : Addr) (ss : List Str), xs = [V.ref l] ∧ (SqL K H l (ss.map V.str) ∨ SqT K H l (ss.map V.str)) ∧ ss.length < 64 ∧ ∀ a, H a = none → Q (.ref a) (upd H a (TxtO w a (met ss)))
theorem cr_setTx (hc : X.calm = true) : CallR X (.type "set") (rSetTx X.K X.w) := by
  intro pins s σ H xs us Q I r h
  obtain ⟨l, ss, rfl, hl, h64, q⟩ := h
  rw [Vals.ref1 r]
  have hn : H s.heap.objs.size = none := I.hok.fresh (Nat.le_refl _)
  rcases hl with hl | hl
  · obtain ⟨its, rv, pl, hz⟩ := I.list hl
    refine call_txt_set (prog := X.prog) (w := X.w) (I.ok.hd hc) pl.isList (by simpa using rv.strs) h64 fun h' tk R k => ?_
    exact ⟨.ref s.heap.objs.size, upd H s.heap.objs.size (TxtO X.w s.heap.objs.size (met ss)), I.laid (t' := tk) k (Nat.le_refl _) (txtO_new R), rfl, q _ hn⟩
  · obtain ⟨its, rv, pl, hz⟩ := I.tuple hl
    refine call_txt_setT (prog := X.prog) (w := X.w) (I.ok.hd hc) (let ⟨_, a1, b1, n1, c1⟩ := pl; ⟨_, a1, b1, n1, c1⟩) (by simpa using rv.strs) h64 fun h' tk R k => ?_
    exact ⟨.ref s.heap.objs.size, upd H s.heap.objs.size (TxtO X.w s.heap.objs.size (met ss)), I.laid (t' := tk) k (Nat.le_refl _) (txtO_new R), rfl, q _ hn⟩
def rSortTx (w : World) : List V → Hp → VK → Prop := fun vs H Q => ∃ (a : Addr) (l : List Str), vs = [V.ref a] ∧ H a = some (TxtO w a l) ∧ l.length < 64 ∧ ∀ (ys : List Str) (p : Addr), ys.Perm l → sortedS ys = true → H p = none → Q (.ref p) (upd H p (.lst (ys.map V.str)))
theorem cr_sortTx (hc : X.calm = true) : CallR X (.builtin "sorted") (rSortTx X.w) := by
  intro pins s σ H vs us Q I r h
  obtain ⟨a, l, rfl, ha, h64, q⟩ := h
  have R0 : TxtSet X.w s.heap a l := (I.hok a _ ha).1
  rw [Vals.ref1 r]
  refine sorted_txt R0 (I.ok.hd hc) h64 fun s' p out c ys k g o hp hg hout pm srt => ?_
  have hlen : (ys.map V.str).length ≤ sizeLine := by rw [List.length_map, pm.length_eq, sizeLine_eq]; omega
  have hn : H p = none := I.hok.fresh hp
  have J : Inv X pins σ (upd H p (.lst (ys.map V.str))) { s with heap := s'.heap, gens := s'.gens, drawn := s'.drawn, toks := s'.toks } :=
    I.call (ch := []) (Un.laid k hp hn) (I.hok.laid k hp ⟨hlen, out.toList, c, vals_of_strs hout, hg⟩) (by rw [g]; exact I.bare) (fun _ z => nomatch z)
  have e : s' = { s with heap := s'.heap, gens := s'.gens, drawn := s'.drawn, toks := s'.toks } := by
    cases s'
    cases s
    cases o
    rfl
  rw [e]
  exact ⟨.ref p, _, J, rfl, q ys p pm srt hn⟩
theorem met_ded (ss : List Str) : (met ss).Perm (dedS ss) := by
  have dm : ∀ (l : List Str) (x : Str), x ∈ dedS l ↔ x ∈ l := by
    intro l
    induction l with
    | nil => intro x; exact Iff.rfl
    | cons y l ih =>
      intro x
      unfold dedS
      split
      · rename_i h
        rw [ih x, List.mem_cons]
        exact ⟨.inr, fun z => z.elim (fun e => e ▸ h) id⟩
      · rw [List.mem_cons, List.mem_cons, ih x]
  have dn : ∀ l : List Str, (dedS l).Nodup := by
    intro l
    induction l with
    | nil => exact List.nodup_nil
    | cons y l ih =>
      unfold dedS
      split
      · exact ih
      · rename_i h
        exact List.nodup_cons.mpr ⟨fun z => h ((dm l y).mp z), ih⟩
  exact (List.perm_ext_iff_of_nodup (met_nodup ss) (dn ss)).mpr fun x => (met_mem ss x).trans (dm ss x).symm
theorem set_inv {ds : List D} {d : D} (e : btD .sset ds = some d) : ∃ xs ss, (ds = [.list xs] ∨ ds = [.tuple xs]) ∧ strsD xs = some ss ∧ ss.length < 64 ∧ d = .list ((sortS (dedS ss)).map .str) := by
  have key : ∀ x, setD x = some d → ∃ ss, strsD x = some ss ∧ ss.length < 64 ∧ d = .list ((sortS (dedS ss)).map .str) := fun x e => by
    unfold setD at e
    cases h : strsD x with
    | none => rw [h] at e; cases e
    | some ss =>
      rw [h] at e
      have e : (if ss.length < 64 then some (PyData.list ((sortS (dedS ss)).map .str)) else none) = some d := e
      split at e
      · rename_i h1; exact ⟨ss, rfl, h1, (Option.some.inj e).symm⟩
      · cases e
  cases ds with
  | nil => cases e
  | cons a r =>
    cases r with
    | nil =>
      cases a with
      | list x => obtain ⟨ss, q⟩ := key x e; exact ⟨x, ss, .inl rfl, q⟩
      | tuple x => obtain ⟨ss, q⟩ := key x e; exact ⟨x, ss, .inr rfl, q⟩
      | _ => cases e
    | cons _ _ => cases a <;> cases e
theorem pe_sset {Wx : WX} (g : Good nm G fe xa Wx X) {b : E} {y : Expr} {p p2 q2 pos : Pos} (hs : globOk X.env.scope "sorted" = true) (hg : globOk X.env.scope "set" = true) (hy : plainR y = true) (hb : PE X y (tB X.K G fe (wOf xa Wx) b)) :
    PE X (.Call (.Name "sorted" p) [.Call (.Name "set" p2) [y] [] q2] [] pos) (tX X.K G fe (wOf xa Wx) (.bt .sset (.cons b .nil))) := by
  obtain ⟨a1, a2⟩ := glob_vis hs
  obtain ⟨b1, b2⟩ := glob_vis hg
  have sy := star_one hy [] X.env
  have sc := star_one (x := .Call (.Name "set" p2) [y] [] q2) rfl [] X.env
  have inner := pe_callTy (p := p2) (pos := q2) (cr_setTx g.calm) b1 (bt_names (by simp [bltNames]) g) (by decide +kernel) (pa_cons hb (pa_nil (X := X)) sy) (by decide) b2 sy rfl
  refine (pe_callB (p := p) (pos := pos) (cr_sortTx g.calm) a1 (bt_names (by simp [bltNames]) g) (by decide +kernel) (pa_cons inner (pa_nil (X := X)) sc) (by decide) a2 sc rfl).weak fun σ H Q q => ?_
  obtain ⟨F, ρ, inn, st, q⟩ := q
  have ev : evalE G fe (.bt .sset (.cons b .nil)) ρ = (bor b ρ (evalE G fe b ρ)).bind fun d => .of (btD .sset [d]) := by
    have e1 : evalE G fe (.bt .sset (.cons b .nil)) ρ = (evalAB G fe (.cons b .nil) ρ).bind fun ds => .of (btD .sset ds) := by conv => lhs; unfold evalE
    have e2 : evalAB G fe (.cons b .nil) ρ = (bor b ρ (evalE G fe b ρ)).bind fun d2 => .ok [d2] := by
      show (bor b ρ (evalE G fe b ρ)).bind (fun d => (evalAB G fe .nil ρ).bind fun ds => .ok (d :: ds)) = _
      rfl
    rw [e1, e2]
    cases bor b ρ (evalE G fe b ρ) <;> rfl
  rw [ev] at q
  have q : After (wOf xa Wx) (EscA σ ρ (escB b ++ [])) F H σ ((bor b ρ (evalE G fe b ρ)).bind fun d => .of (btD .sset [d])) _ := q
  rw [List.append_nil] at q
  refine ⟨F, ρ, inn, st, (After.bind (A1 := EscA σ ρ (escB b)) (A2 := EscA σ ρ (escB b)) q (fun _ z => z) (fun _ z => z)).map fun d F1 H1 e1 q1 v r => ?_⟩
  obtain ⟨d', hd, k⟩ := q1.of
  obtain ⟨xs, ss, hx, hss, h64, rfl⟩ := set_inv hd
  have arg : ∃ pl, v = .ref pl ∧ (SqL X.K H1 pl (ss.map V.str) ∨ SqT X.K H1 pl (ss.map V.str)) ∧ ∀ x ∈ ss, SOk x := by
    rcases hx with hx | hx
    · cases hx
      obtain ⟨pl, vs, rfl, hp, hr⟩ := r
      obtain ⟨rfl, ho⟩ := hr.strs hss
      exact ⟨pl, rfl, .inl (.inl hp), ho⟩
    · cases hx
      cases r with
      | tup hp hr =>
        obtain ⟨rfl, ho⟩ := hr.strs hss
        exact ⟨_, rfl, .inr (e1.inn.sub.sqT hp.sqT), ho⟩
  obtain ⟨pl, rfl, hp, ho⟩ := arg
  refine ⟨pl, ss, rfl, hp, h64, fun a ha => ⟨a, met ss, rfl, upd_same, Nat.lt_of_le_of_lt (met_len ss) h64, fun ys p' hpm hsr hp' => ?_⟩⟩
  have ne : p' ≠ a := fun z => by subst z; rw [upd_same] at hp'; cases hp'
  have hp1 : H1 p' = none := by rw [upd_ne ne] at hp'; exact hp'
  have e : ys = sortS (dedS ss) := sorted_one ((hpm.trans (met_ded ss)).trans (sortS_perm _).symm) (sortedS_pairwise hsr) (sortS_sorted _)
  subst e
  have x1 : Ext (EscA σ ρ (escB b)) F1 H1 F1 (upd H1 a (TxtO X.w a (met ss))) := Ext.laid e1.inn ha
  have x2 : Ext (EscA σ ρ (escB b)) F1 (upd H1 a (TxtO X.w a (met ss))) F1 (upd (upd H1 a (TxtO X.w a (met ss))) p' (.lst ((sortS (dedS ss)).map V.str))) := Ext.laid x1.inn hp'
  refine k F1 _ (x1.trans x2 (fun _ z => z) fun _ z => z) _ ⟨p', _, rfl, e1.same.free hp1, e1.inn.free hp1, upd_same, reps_strs fun x hx => ho x ?_⟩
  exact (met_mem ss x).mp ((met_ded ss).mem_iff.mpr ((sortS_perm _).mem_iff.mp hx))
end
end G7

namespace G7
open L2 PyProof.Rows PySem.Spec PySem
variable {nm : Nms} {G : Nat → Option D} {fe : Nat → List D → Res D} {xa : Str → Addr}
theorem s_neg {a : E} (sa : Snd nm G fe xa a) : Snd nm G fe xa (.neg a) := by
  refine snd_flat ?_ ?_ ?_ ?_ ?_ ?_ ?_
  rotate_left 1
  · intro N sc pe h env w
    cases pe with
    | UnaryOp o x pos => cases o <;> first | rfl | (unfold chkE at h; cases h)
    | _ => first | rfl | (unfold chkE at h; cases h)
  · (intro N sc op xs pos; unfold chkE; rfl)
  · (intro N sc xs; cases xs <;> (first | rfl | (unfold chkA; rfl)))
  · (intro N sc xs; rcases xs with _ | ⟨_, _ | ⟨_, _⟩⟩ <;> (first | rfl | (unfold chkC; rfl)))
  · (intro N sc tg x; unfold chkI; rfl)
  · exact fun _ z => by cases z
  intro X Wx g pe h
  cases pe with
  | UnaryOp o x pos =>
    cases o with
    | USub =>
      unfold chkE at h
      exact e_neg (sa.ee g x h)
    | _ => unfold chkE at h; cases h
  | _ => unfold chkE at h; cases h
theorem s_call (f : Nat) {es : E} (s : Snd nm G fe xa es) : Snd nm G fe xa (.call f es) := by
  (refine snd_flat ?_ ?_ ?_ ?_ ?_ ?_ ?_; rotate_left 1; (intro N sc pe h env w; cases pe <;> first | rfl | (unfold chkE at h; cases h)); (intro N sc op xs pos; unfold chkE; rfl); (intro N sc xs; cases xs <;> (first | rfl | (unfold chkA; rfl))); (intro N sc xs; rcases xs with _ | ⟨_, _ | ⟨_, _⟩⟩ <;> (first | rfl | (unfold chkC; rfl))); (intro N sc tg x; unfold chkI; rfl); exact fun _ z => by cases z)
  intro X Wx g pe h
  cases pe with
  | Call fn args kws pos =>
    cases fn with
    | Name x p =>
      cases args with
      | nil => unfold chkE at h; cases h
      | cons y ys =>
        cases kws with
        | cons _ _ => unfold chkE at h; cases h
        | nil =>
          unfold chkE at h
          simp only [Bool.and_eq_true, decide_eq_true_eq] at h
          obtain ⟨⟨⟨e, h1⟩, h2⟩, h3⟩ := h
          subst e
          exact pe_fn g (by simpa using h2) h1 h3 (s.ar g _ h3).1
    | _ => unfold chkE at h; cases h
  | _ => unfold chkE at h; cases h
theorem tysOk_one {sc : Scope} {t : Ty} {z : Expr} (h : tyOk t sc z = true) : ∃ x p, z = .Name x p := by
  cases z <;> first | exact ⟨_, _, rfl⟩ | (unfold tyOk at h; cases h)
set_option maxHeartbeats 20000000 in
theorem s_isi {a : E} (ts : List Ty) (sa : Snd nm G fe xa a) : Snd nm G fe xa (.isi a ts) := by
  refine snd_flat ?_ ?_ ?_ ?_ ?_ ?_ ?_
  rotate_left 1
  · intro N sc pe h env w
    cases pe <;> first | rfl | (exfalso; rcases ts with _ | ⟨_, _ | ⟨_, _⟩⟩ <;> (unfold chkE at h; cases h))
  · intro N sc op xs pos
    rcases ts with _ | ⟨_, _ | ⟨_, _⟩⟩ <;> (unfold chkE; rfl)
  · (intro N sc xs; cases xs <;> (first | rfl | (unfold chkA; rfl)))
  · (intro N sc xs; rcases xs with _ | ⟨_, _ | ⟨_, _⟩⟩ <;> (first | rfl | (unfold chkC; rfl)))
  · (intro N sc tg x; unfold chkI; rfl)
  · exact fun _ z => by cases z
  intro X Wx g pe h
  have hN : ∀ {fn : Str} {y zs kk tp p pos}, (decide (fn = "isinstance") && globOk X.env.scope fn && plainR y && chkE nm X.N X.env.scope a y && tysOk X.env.scope ts zs && decide (zs.length ≤ 100)) = true → PE X (.Call (.Name fn p) [y, .Tuple zs kk tp] [] pos) (tX X.K G fe (wOf xa Wx) (.isi a ts)) := by
    intro fn y zs kk tp p pos h
    simp only [Bool.and_eq_true, decide_eq_true_eq] at h
    obtain ⟨⟨⟨⟨⟨e, h1⟩, h2⟩, h3⟩, h4⟩, h5⟩ := h
    subst e
    exact pe_isiN g h1 h2 (sa.eb g y h3) h4 h5
  cases pe with
  | Call fn args kws pos =>
    cases fn with
    | Name x p =>
      rcases args with _ | ⟨y, _ | ⟨z, _ | ⟨_, _⟩⟩⟩
      · rcases ts with _ | ⟨_, _ | ⟨_, _⟩⟩ <;> (unfold chkE at h; cases h)
      · rcases ts with _ | ⟨_, _ | ⟨_, _⟩⟩ <;> (unfold chkE at h; cases h)
      · cases kws with
        | cons _ _ => cases z <;> rcases ts with _ | ⟨_, _ | ⟨_, _⟩⟩ <;> (unfold chkE at h; cases h)
        | nil =>
          rcases ts with _ | ⟨t, _ | ⟨t2, tr⟩⟩
          · cases z with
            | Tuple zs kk tp => unfold chkE at h; exact hN h
            | _ => unfold chkE at h; cases h
          · unfold chkE at h
            simp only [Bool.and_eq_true, decide_eq_true_eq] at h
            obtain ⟨⟨⟨⟨e, h1⟩, h2⟩, h3⟩, h4⟩ := h
            subst e
            exact pe_isi1 g h1 h2 (sa.eb g y h3) h4
          · cases z with
            | Tuple zs kk tp => unfold chkE at h; exact hN h
            | _ => unfold chkE at h; cases h
      · cases z <;> rcases ts with _ | ⟨_, _ | ⟨_, _⟩⟩ <;> (unfold chkE at h; cases h)
    | _ => rcases ts with _ | ⟨_, _ | ⟨_, _⟩⟩ <;> (unfold chkE at h; cases h)
  | _ => rcases ts with _ | ⟨_, _ | ⟨_, _⟩⟩ <;> (unfold chkE at h; cases h)
theorem find_first {ss : List Str} {z : Str} {j : Nat} (h : (ss.findIdx? fun y => decide (y = z)) = some j) : ss[j]? = some z ∧ ∀ m, m < j → ss[m]? ≠ some z := by
  obtain ⟨h1, h2, h3⟩ := List.findIdx?_eq_some_iff_getElem.mp h
  simp only [decide_eq_true_eq] at h2 h3
  refine ⟨by rw [List.getElem?_eq_getElem h1, h2], fun m hm e => ?_⟩
  have hl : m < ss.length := by omega
  rw [List.getElem?_eq_getElem hl] at e
  exact h3 m hm (Option.some.inj e)
theorem strsD_strs : ∀ ss : List Str, strsD (ss.map .str) = some ss
  | [] => rfl
  | s :: r => by show (strsD (r.map .str)).map _ = _; rw [strsD_strs r]; rfl
theorem pe_idx {X : Cx} {Wx : WX} (g : Good nm G fe xa Wx X) {gi : Nat} (hg : gi ∈ nm.ts) {b : E} {y : Expr} {ap cp p0 : Pos} (hgl : globOk X.env.scope (nm.g gi) = true) (hl : (ap.endLine == cp.line) = true) (hy : plainR y = true) (hb : PE X y (tB X.K G fe (wOf xa Wx) b)) :
    PE X (.Call (.Attribute (.Name (nm.g gi) p0) "index" ap) [y] [] cp) (tX X.K G fe (wOf xa Wx) (.bt .index (.cons (.glob gi) (.cons b .nil)))) := by
  obtain ⟨a, o, ss, hG, hm, lk, hc, hdn, hq⟩ := g.tups gi hg
  obtain ⟨a1, a2⟩ := glob_vis hgl
  have ss1 := star_one hy [] X.env
  have few : ((backTo cp (starEach [y] X.env)).all (fun x => !x.1) && (backToKw cp (keywordEach [] X.env)).all (fun x => x.1.isSome)
      && decide ([y].length + ([] : List Keyword).length + (if ([] : List Keyword).isEmpty then 0 else 1) < 30)) = true := by rw [ss1]; rfl
  refine (pe_bm F.plainAttrs_tuple F.slot_tuple_index F.type_tuple_index mt_tup_index (pe_glob (v := .ref a) a1 hm rfl a2) (pa_cons hb pa_nil ss1) rfl few hl ss1 rfl).weak fun σ H Q q => ?_
  obtain ⟨F, ρ, inn, st, q⟩ := q
  refine ⟨.inr (.inl ⟨rfl, o, lk, hc, hdn⟩), F, ρ, inn, st, ?_⟩
  have ev : evalAB G fe (.cons (.glob gi) (.cons b .nil)) ρ = (bor b ρ (evalE G fe b ρ)).bind fun d2 => .ok [.tuple (ss.map .str), d2] := by
    have e1 : bor (.glob gi) ρ (evalE G fe (.glob gi) ρ) = .ok (.tuple (ss.map .str)) := by
      show evalE G fe (.glob gi) ρ = _
      unfold evalE
      rw [hG]
      rfl
    have e2 : evalAB G fe (.cons b .nil) ρ = (bor b ρ (evalE G fe b ρ)).bind fun d2 => .ok [d2] := by
      show (bor b ρ (evalE G fe b ρ)).bind (fun d => (evalAB G fe .nil ρ).bind fun ds => .ok (d :: ds)) = _
      rfl
    show (bor (.glob gi) ρ (evalE G fe (.glob gi) ρ)).bind (fun d => (evalAB G fe (.cons b .nil) ρ).bind fun ds => .ok (d :: ds)) = _
    rw [e1, e2]
    cases bor b ρ (evalE G fe b ρ) <;> rfl
  have q : After (wOf xa Wx) (EscA σ ρ (escB b ++ [])) F H σ ((evalAB G fe (.cons (.glob gi) (.cons b .nil)) ρ).bind fun ds => .of (btD .index ds)) _ := q
  rw [ev, List.append_nil] at q
  cases hbv : bor b ρ (evalE G fe b ρ) with
  | bad => rw [hbv] at q; exact q.elim
  | exc c => rw [hbv] at q; exact q
  | ok d2 =>
    rw [hbv] at q
    intro F1 H1 e1 v r
    have q : After (wOf xa Wx) (EscA σ ρ (escB b)) F H σ (Res.of (btD .index [.tuple (ss.map .str), d2])) _ := q
    cases d2 with
    | str z =>
      obtain ⟨rfl, ho⟩ := r.str_inv
      have eb : btD .index [.tuple (ss.map .str), .str z] = (ss.findIdx? fun y => decide (y = z)).map fun j => .int (j : Nat) := by
        show (match strsD (ss.map .str) with
          | some ss => (ss.findIdx? fun y => decide (y = z)).map fun j => PyData.int (j : Nat)
          | none => none) = _
        rw [strsD_strs]
      rw [eb] at q
      obtain ⟨d, hd, k⟩ := q.of
      obtain ⟨j, hj, rfl⟩ := Option.map_eq_some_iff.mp hd
      obtain ⟨f1, f2⟩ := find_first hj
      exact ⟨a, ss, z, j, rfl, rfl, hq H1, f1, f2, k F1 H1 e1 _ (Rep.x (.int _))⟩
    | _ => exact q.elim
theorem keyKw_ok {ks : List Keyword} (h : keyKw ks = true) : ∃ params body scope lp kp, ks = [⟨some "key", .Lambda params body scope lp, kp⟩] ∧ LamT params body scope := by
  unfold keyKw at h
  split at h
  · simp only [Bool.and_eq_true, decide_eq_true_eq] at h
    obtain ⟨rfl, h2⟩ := h
    exact ⟨_, _, _, _, _, rfl, lamT_by h2⟩
  · cases h
theorem s_bt (b : Bt) {es : E} (s : Snd nm G fe xa es) (sj1 : ∀ a c, es = .cons a c → Snd nm G fe xa a) (sj2 : ∀ k c, es = .cons k (.cons c .nil) → Snd nm G fe xa c) : Snd nm G fe xa (.bt b es) := by
  (refine snd_flat ?_ ?_ ?_ ?_ ?_ ?_ ?_; rotate_left 1; (intro N sc pe h env w; cases pe <;> first | rfl | (unfold chkE at h; cases h)); (intro N sc op xs pos; unfold chkE; rfl); (intro N sc xs; cases xs <;> (first | rfl | (unfold chkA; rfl))); (intro N sc xs; rcases xs with _ | ⟨_, _ | ⟨_, _⟩⟩ <;> (first | rfl | (unfold chkC; rfl))); (intro N sc tg x; unfold chkI; rfl); exact fun _ z => by cases z)
  intro X Wx g pe h
  cases pe with
  | Call fn args kws pos =>
    cases fn with
    | Name x p =>
      cases args with
      | nil => unfold chkE at h; cases h
      | cons y ys =>
        cases kws with
        | cons kw kws =>
          unfold chkE at h
          cases b with
          | skey =>
            cases es with
            | cons e er =>
              cases er with
              | nil =>
                simp only [Bool.and_eq_true, decide_eq_true_eq, List.isEmpty_iff] at h
                obtain ⟨⟨⟨⟨⟨⟨e0, e1⟩, e2⟩, e3⟩, e4⟩, e5⟩, e6⟩ := h
                subst e1 e4
                obtain ⟨params, body, scope, lp, kp, ek, L⟩ := keyKw_ok e3
                rw [ek]
                exact pe_skey g e0 e2 e5 L ((sj1 _ _ rfl).eb g y e6)
              | _ => cases h
            | _ => cases h
          | _ => cases h
        | nil =>
          unfold chkE at h
          cases hn : btName b with
          | none =>
            rw [hn] at h
            cases b with
            | sset =>
              cases es with
              | cons e er =>
                cases er with
                | nil =>
                  cases y with
                  | Call fn2 args2 kws2 pos2 =>
                    cases fn2 with
                    | Name z p2 =>
                      rcases args2 with _ | ⟨u, _ | ⟨_, _⟩⟩
                      · cases h
                      · cases kws2 with
                        | cons _ _ => cases h
                        | nil =>
                          cases ys with
                          | cons _ _ => cases h
                          | nil =>
                            simp only [Bool.and_eq_true, decide_eq_true_eq] at h
                            obtain ⟨⟨⟨⟨⟨e1, e2⟩, e3⟩, e4⟩, e5⟩, e6⟩ := h
                            subst e1 e3
                            exact pe_sset g e2 e4 e5 ((sj1 _ _ rfl).eb g u e6)
                      · cases h
                    | _ => cases h
                  | _ => cases h
                | _ => cases h
              | _ => cases h
            | _ => first | (cases h; done) | (cases hn; done)
          | some n =>
            rw [hn] at h
            simp only [Bool.and_eq_true, decide_eq_true_eq] at h
            obtain ⟨⟨h0, h1⟩, h3⟩ := h
            have e : x = n.1 := h0
            subst e
            exact pe_bt (isB := n.2) g hn h1 h3 (s.ar g _ h3).2
    | Attribute c m ap =>
      cases c with
      | Constant k k0 p0 =>
        cases k with
        | str t =>
          rcases args with _ | ⟨y, _ | ⟨_, _⟩⟩
          · unfold chkE at h; cases h
          · cases kws with
            | cons _ _ => unfold chkE at h; cases h
            | nil =>
              cases b with
              | join =>
                cases es with
                | cons e1 er =>
                  cases e1 with
                  | kS s' =>
                    cases er with
                    | cons e2 e3 =>
                      cases e3 with
                      | nil =>
                        unfold chkE at h
                        simp only [Bool.and_eq_true, decide_eq_true_eq] at h
                        obtain ⟨⟨⟨⟨⟨e1, e2⟩, e3⟩, e4⟩, e5⟩, e6⟩ := h
                        subst e1 e3
                        exact pe_jn (str_small e2) e4 e5 ((sj2 _ _ rfl).eb g y e6)
                      | _ => unfold chkE at h; cases h
                    | _ => unfold chkE at h; cases h
                  | _ => unfold chkE at h; cases h
                | _ => unfold chkE at h; cases h
              | _ => unfold chkE at h; cases h
          · unfold chkE at h; cases h
        | _ => unfold chkE at h; cases h
      | Name x0 p0 =>
        rcases args with _ | ⟨y, _ | ⟨_, _⟩⟩
        · unfold chkE at h; cases h
        · cases kws with
          | cons _ _ => unfold chkE at h; cases h
          | nil =>
            cases b with
            | index =>
              cases es with
              | cons e1 er =>
                cases e1 with
                | glob gi =>
                  cases er with
                  | cons e2 e3 =>
                    cases e3 with
                    | nil =>
                      unfold chkE at h
                      simp only [Bool.and_eq_true, decide_eq_true_eq] at h
                      obtain ⟨⟨⟨⟨⟨⟨e1, e2⟩, e3⟩, e4⟩, e5⟩, e6⟩, e7⟩ := h
                      subst e1 e4
                      exact pe_idx g (by simpa using e3) e2 e5 e6 ((sj2 _ _ rfl).eb g y e7)
                    | _ => unfold chkE at h; cases h
                  | _ => unfold chkE at h; cases h
                | _ => unfold chkE at h; cases h
              | _ => unfold chkE at h; cases h
            | _ => unfold chkE at h; cases h
        · unfold chkE at h; cases h
      | _ => unfold chkE at h; cases h
    | _ => unfold chkE at h; cases h
  | _ => unfold chkE at h; cases h
end G7

namespace G7
open L2 PyProof.Rows PySem.Spec PySem
variable {nm : Nms} {G : Nat → Option D} {fe : Nat → List D → Res D} {xa : Str → Addr}
theorem s_var (i : Nat) : Snd nm G fe xa (.var i) where
  ev g pe h := by
    obtain ⟨y, p, rfl, hs⟩ := chk_var h
    exact read_var hs
  ts g pe _ h := by
    obtain ⟨y, p, rfl, hs⟩ := chk_var h
    exact tst_var hs
  wt g op xs pos h := by unfold chkE at h; cases h
  ar g xs h := by cases xs <;> (unfold chkA at h; cases h)
  cd g xs h := by rcases xs with _ | ⟨_, _ | ⟨_, _⟩⟩ <;> (unfold chkC at h; cases h)
  it g tg x h := by unfold chkI at h; cases h
theorem s_cmp (o : Cm) {a b : E} (sa : Snd nm G fe xa a) (sb : Snd nm G fe xa b) : Snd nm G fe xa (.cmp o a b) := by
  have key : ∀ {X : Cx} {Wx : WX}, Good nm G fe xa Wx X → ∀ pe, chkE nm X.N X.env.scope (.cmp o a b) pe = true → PE X pe (tX X.K G fe (wOf xa Wx) (.cmp o a b)) ∧ PT X pe (tT X.K G fe (wOf xa Wx) (.cmp o a b)) := by
    intro X Wx g pe h
    cases pe with
    | Compare x ops ys pos =>
      rcases ops with _ | ⟨p, _ | ⟨_, _⟩⟩
      · unfold chkE at h; cases h
      · rcases ys with _ | ⟨y, _ | ⟨_, _⟩⟩
        · unfold chkE at h; cases h
        · unfold chkE at h
          simp only [Bool.and_eq_true] at h
          obtain ⟨⟨⟨h1, h2⟩, h3⟩, h4⟩ := h
          exact pe_c g h1 h2 (sa.eb g x h3) (sb.eb g y h4)
        · unfold chkE at h; cases h
      · unfold chkE at h; cases h
    | _ => unfold chkE at h; cases h
  exact { ev := fun g pe h => (key g pe h).1, ts := fun g pe _ h => (key g pe h).2, wt := fun g op xs pos h => by (unfold chkE at h; cases h),
          ar := fun g xs h => by (cases xs <;> (unfold chkA at h; cases h)), cd := fun g xs h => by (rcases xs with _ | ⟨_, _ | ⟨_, _⟩⟩ <;> (unfold chkC at h; cases h)), it := fun g tg x h => by (unfold chkI at h; cases h) }
theorem s_chain (o1 o2 : Cm) {a b c : E} (sa : Snd nm G fe xa a) (sb : Snd nm G fe xa b) (sc : Snd nm G fe xa c) : Snd nm G fe xa (.chain o1 o2 a b c) := by
  have key : ∀ {X : Cx} {Wx : WX}, Good nm G fe xa Wx X → ∀ pe, chkE nm X.N X.env.scope (.chain o1 o2 a b c) pe = true → PE X pe (tX X.K G fe (wOf xa Wx) (.chain o1 o2 a b c)) ∧ PT X pe (tT X.K G fe (wOf xa Wx) (.chain o1 o2 a b c)) := by
    intro X Wx g pe h
    cases pe with
    | Compare x ops ys pos =>
      rcases ops with _ | ⟨p, _ | ⟨q, _ | ⟨_, _⟩⟩⟩
      · unfold chkE at h; cases h
      · unfold chkE at h; cases h
      · rcases ys with _ | ⟨y, _ | ⟨z, _ | ⟨_, _⟩⟩⟩
        · unfold chkE at h; cases h
        · unfold chkE at h; cases h
        · unfold chkE at h
          simp only [Bool.and_eq_true, decide_eq_true_eq] at h
          obtain ⟨⟨⟨⟨⟨⟨⟨⟨h1, h2⟩, n1⟩, n2⟩, n3⟩, n4⟩, h3⟩, h4⟩, h5⟩ := h
          exact pe_ch g h1 h2 n1 n2 n3 n4 (sa.eb g x h3) (sb.eb g y h4) (sc.eb g z h5)
        · unfold chkE at h; cases h
      · unfold chkE at h; cases h
    | _ => unfold chkE at h; cases h
  exact { ev := fun g pe h => (key g pe h).1, ts := fun g pe _ h => (key g pe h).2, wt := fun g op xs pos h => by (unfold chkE at h; cases h),
          ar := fun g xs h => by (cases xs <;> (unfold chkA at h; cases h)), cd := fun g xs h => by (rcases xs with _ | ⟨_, _ | ⟨_, _⟩⟩ <;> (unfold chkC at h; cases h)), it := fun g tg x h => by (unfold chkI at h; cases h) }
theorem s_and {a b : E} (sa : Snd nm G fe xa a) (sb : Snd nm G fe xa b) : Snd nm G fe xa (.and a b) := by
  have key : ∀ {X : Cx} {Wx : WX}, Good nm G fe xa Wx X → ∀ pe, chkE nm X.N X.env.scope (.and a b) pe = true → PE X pe (tX X.K G fe (wOf xa Wx) (.and a b)) ∧ PW X pe (tT X.K G fe (wOf xa Wx) (.and a b)) := by
    intro X Wx g pe h
    cases pe with
    | BoolOp op xs pos =>
      cases op with
      | And =>
        rcases xs with _ | ⟨x, _ | ⟨y, r⟩⟩
        · unfold chkE at h; cases h
        · unfold chkE at h; cases h
        · unfold chkE at h
          simp only [Bool.and_eq_true] at h
          obtain ⟨⟨h1, h2⟩, h3⟩ := h
          exact ⟨e_and (sa.ee g x h2) (sb.ee g _ h3), w_and (sa.ts g x h1 h2) (sb.wt g _ _ _ h3)⟩
      | Or => unfold chkE at h; cases h
    | _ => unfold chkE at h; cases h
  exact { ev := fun g pe h => (key g pe h).1, ts := fun g pe _ h => (key g pe h).2.pt, wt := fun g op xs pos h => (key g _ h).2,
          ar := fun g xs h => by (cases xs <;> (unfold chkA at h; cases h)), cd := fun g xs h => by (rcases xs with _ | ⟨_, _ | ⟨_, _⟩⟩ <;> (unfold chkC at h; cases h)), it := fun g tg x h => by (unfold chkI at h; cases h) }
theorem s_or {a b : E} (sa : Snd nm G fe xa a) (sb : Snd nm G fe xa b) : Snd nm G fe xa (.or a b) := by
  have key : ∀ {X : Cx} {Wx : WX}, Good nm G fe xa Wx X → ∀ pe, chkE nm X.N X.env.scope (.or a b) pe = true → PE X pe (tX X.K G fe (wOf xa Wx) (.or a b)) ∧ PW X pe (tT X.K G fe (wOf xa Wx) (.or a b)) := by
    intro X Wx g pe h
    cases pe with
    | BoolOp op xs pos =>
      cases op with
      | Or =>
        rcases xs with _ | ⟨x, _ | ⟨y, r⟩⟩
        · unfold chkE at h; cases h
        · unfold chkE at h; cases h
        · unfold chkE at h
          simp only [Bool.and_eq_true] at h
          obtain ⟨⟨h1, h2⟩, h3⟩ := h
          exact ⟨e_or (sa.ee g x h2) (sb.ee g _ h3), w_or (sa.ts g x h1 h2) (sb.wt g _ _ _ h3)⟩
      | And => unfold chkE at h; cases h
    | _ => unfold chkE at h; cases h
  exact { ev := fun g pe h => (key g pe h).1, ts := fun g pe _ h => (key g pe h).2.pt, wt := fun g op xs pos h => (key g _ h).2,
          ar := fun g xs h => by (cases xs <;> (unfold chkA at h; cases h)), cd := fun g xs h => by (rcases xs with _ | ⟨_, _ | ⟨_, _⟩⟩ <;> (unfold chkC at h; cases h)), it := fun g tg x h => by (unfold chkI at h; cases h) }
theorem s_one {a : E} (sa : Snd nm G fe xa a) : Snd nm G fe xa (.one a) := by
  have key : ∀ {X : Cx} {Wx : WX}, Good nm G fe xa Wx X → ∀ pe, chkE nm X.N X.env.scope (.one a) pe = true → PE X pe (tX X.K G fe (wOf xa Wx) (.one a)) ∧ PW X pe (tT X.K G fe (wOf xa Wx) (.one a)) := by
    intro X Wx g pe h
    cases pe with
    | BoolOp op xs pos =>
      rcases xs with _ | ⟨x, _ | ⟨y, r⟩⟩
      · unfold chkE at h; cases h
      · unfold chkE at h
        simp only [Bool.and_eq_true] at h
        refine ⟨(pe_one (sa.ee g x h.2)).weak fun σ H Q q => ?_, ?_⟩
        · obtain ⟨F, ρ, inn, st, q⟩ := q
          refine ⟨F, ρ, inn, st, ?_⟩
          exact After.map q fun d F' H' e k v r => k v r.x
        · have := (sa.ts g x h.1 h.2)
          cases op with
          | And => exact (pw_and1 this).weak fun σ H Q q => tT_one q
          | Or => exact (pw_or1 this).weak fun σ H Q q => tT_one q
      · unfold chkE at h; cases h
    | _ => unfold chkE at h; cases h
  exact { ev := fun g pe h => (key g pe h).1, ts := fun g pe _ h => (key g pe h).2.pt, wt := fun g op xs pos h => (key g _ h).2,
          ar := fun g xs h => by (cases xs <;> (unfold chkA at h; cases h)), cd := fun g xs h => by (rcases xs with _ | ⟨_, _ | ⟨_, _⟩⟩ <;> (unfold chkC at h; cases h)),
          it := fun g tg x h => by
            unfold chkI at h
            simp only [Bool.and_eq_true] at h
            exact pi_seq (sa.eb g x h.2) }
theorem s_not {a : E} (sa : Snd nm G fe xa a) : Snd nm G fe xa (.not a) := by
  have key : ∀ {X : Cx} {Wx : WX}, Good nm G fe xa Wx X → ∀ pe, chkE nm X.N X.env.scope (.not a) pe = true → PE X pe (tX X.K G fe (wOf xa Wx) (.not a)) ∧ PT X pe (tT X.K G fe (wOf xa Wx) (.not a)) := by
    intro X Wx g pe h
    cases pe with
    | UnaryOp o x pos =>
      cases o with
      | Not =>
        unfold chkE at h
        simp only [Bool.and_eq_true] at h
        exact ⟨e_not (sa.ee g x h.2) (tru_of (sa.ev g x h.2) fun i hi => by subst hi; exact chk_var h.2), t_not (sa.ts g x h.1 h.2)⟩
      | _ => unfold chkE at h; cases h
    | _ => unfold chkE at h; cases h
  exact { ev := fun g pe h => (key g pe h).1, ts := fun g pe _ h => (key g pe h).2, wt := fun g op xs pos h => by (unfold chkE at h; cases h),
          ar := fun g xs h => by (cases xs <;> (unfold chkA at h; cases h)), cd := fun g xs h => by (rcases xs with _ | ⟨_, _ | ⟨_, _⟩⟩ <;> (unfold chkC at h; cases h)), it := fun g tg x h => by (unfold chkI at h; cases h) }
theorem s_ite {c a b : E} (sc : Snd nm G fe xa c) (sa : Snd nm G fe xa a) (sb : Snd nm G fe xa b) : Snd nm G fe xa (.ite c a b) where
  ev g pe h := by
    cases pe with
    | IfExp x y z pos =>
      unfold chkE at h
      simp only [Bool.and_eq_true] at h
      obtain ⟨⟨⟨h1, h2⟩, h3⟩, h4⟩ := h
      exact e_ite (sc.ts g x h1 h2) (sa.ee g y h3) (sb.ee g z h4)
    | _ => unfold chkE at h; cases h
  ts g pe hp h := by
    cases pe with
    | IfExp x y z pos => cases hp
    | _ => unfold chkE at h; cases h
  wt g op xs pos h := by unfold chkE at h; cases h
  ar g xs h := by cases xs <;> (unfold chkA at h; cases h)
  cd g xs h := by rcases xs with _ | ⟨_, _ | ⟨_, _⟩⟩ <;> (unfold chkC at h; cases h)
  it g tg x h := by unfold chkI at h; cases h
theorem s_nil : Snd nm G fe xa .nil where
  ev g pe h := by unfold chkE at h; cases h
  ts g pe _ h := by unfold chkE at h; cases h
  wt g op xs pos h := by unfold chkE at h; cases h
  ar g xs h := by
    cases xs with
    | nil => exact ⟨a_nil, ab_nil⟩
    | cons _ _ => unfold chkA at h; cases h
  cd g xs h := by
    cases xs with
    | nil =>
      refine ⟨fun pins s σ H Q I q => pts_nil.run pins s σ H Q I ?_⟩
      obtain ⟨F, ρ, inn, st, q⟩ := q
      exact q F H (Ext.refl inn)
    | cons _ _ => unfold chkC at h; cases h
  it g tg x h := by unfold chkI at h; cases h
theorem s_cons {a b : E} (sa : Snd nm G fe xa a) (sb : Snd nm G fe xa b) : Snd nm G fe xa (.cons a b) where
  ev g pe h := by unfold chkE at h; cases h
  ts g pe _ h := by unfold chkE at h; cases h
  wt g op xs pos h := by unfold chkE at h; cases h
  ar g xs h := by
    cases xs with
    | nil => unfold chkA at h; cases h
    | cons x xs =>
      unfold chkA at h
      simp only [Bool.and_eq_true] at h
      exact ⟨a_cons h.1.1 (sa.ee g x h.1.2) (sb.ar g xs h.2).1, ab_cons h.1.1 (sa.eb g x h.1.2) (sb.ar g xs h.2).2⟩
  cd g xs h := by
    rcases xs with _ | ⟨x, _ | ⟨_, _⟩⟩
    · cases b <;> (unfold chkC at h; cases h)
    · cases b with
      | nil =>
        unfold chkC at h
        simp only [Bool.and_eq_true] at h
        refine ⟨fun pins s σ H Q I q => (pts_one (sa.ts g x h.1 h.2)).run pins s σ H Q I ?_⟩
        obtain ⟨F, ρ, inn, st, q⟩ := q
        exact ⟨F, ρ, inn, st, (After.bind (A1 := EscA σ ρ (escB a)) (A2 := EscA σ ρ (escB a)) (show After _ _ F H σ ((evalE G fe a ρ).bind _) _ from q) (fun _ z => z) (fun _ z => z)).map fun d F1 H1 e1 q1 => q1 F1 H1 (Ext.refl e1.inn)⟩
      | _ => unfold chkC at h; cases h
    · cases b <;> (unfold chkC at h; cases h)
  it g tg x h := by unfold chkI at h; cases h
end G7

namespace G7
open L2 PyProof.Rows PySem.Spec PySem
variable {nm : Nms} {G : Nat → Option D} {fe : Nat → List D → Res D} {xa : Str → Addr}
/-! ### {k: v} -/
theorem Ext.growK {A : Addr → Prop} {F1 H1 F H : Hp} {D : Addr} {o : HO} {xs : List (Key × V)} (e : Ext A F1 H1 F H) (h1 : H1 D = none) (hF : F D = none) (hD : H D = some (.dK xs)) : Ext A F1 H1 F (upd H D o) :=
  ⟨e.sub, ⟨fun a u q n => by rw [upd_ne (ne_of_none q h1)]; exact e.same.keep a u q n, fun a ps q => by
    obtain ⟨m, z⟩ := e.same.tbl a ps q
    exact ⟨m, by rw [upd_ne (ne_of_none q h1)]; exact z⟩, fun P t => (e.same.tab P t).over (fun ps z => by rw [hD] at z; cases z) fun c q z => by rw [hD] at z; cases z⟩, e.new, ⟨fun a u q => by rw [upd_ne (ne_of_none q hF)]; exact e.inn.sub a u q, e.inn.plain⟩⟩
theorem pe_dct1 {X : Cx} {Wx : WX} {a b : E} {k v : Expr} {pos : Pos} (hk : PE X k (tE X.K G fe (wOf xa Wx) a)) (hv : PE X v (tE X.K G fe (wOf xa Wx) b)) : PE X (.Dict [some k] [v] pos) (tX X.K G fe (wOf xa Wx) (.dct1 a b)) := by
  refine (pe_disp (pps_cons hk hv pps_nil) rfl rfl (by simp) (by simp)).weak fun σ H Q q => ?_
  obtain ⟨F, ρ, inn, st, q⟩ := q
  intro p hp
  have q : After (wOf xa Wx) (EscA σ ρ (esc a ++ esc b)) F H σ ((evalE G fe a ρ).bind fun x => (evalE G fe b ρ).bind fun y => .of ((dKey x).map fun _ => PyData.dict [(x, y)])) (fun d F' H' => ∀ v, RepX true X.K H F' H' v d → Q v H') := q
  have e0 : Ext (EscA σ ρ (esc a ++ esc b)) F H F (upd H p (.dK [])) := Ext.laid inn hp
  have noE : ∀ js, ¬ EscA σ ρ js p := by
    rintro js ⟨j, _, ⟨d, hd⟩, hs⟩
    obtain ⟨p', o, h1, h2⟩ := st.own_at hd
    rw [hs] at h1
    cases h1
    rw [hp] at h2
    cases h2
  refine ⟨F, ρ, e0.inn, st.ext e0 inn, ?_⟩
  cases ha : evalE G fe a ρ with
  | bad => rw [ha] at q; exact q.elim
  | exc c => rw [ha] at q; exact fun F' H' e => q F' H' (e0.trans e (fun _ z => z) fun _ => esc_l)
  | ok d1 =>
    rw [ha] at q
    intro F1 H1 e1 v1 r1
    refine ⟨F1, ρ, e1.inn, (st.ext e0 inn).ext e1 e0.inn, ?_⟩
    have q : After (wOf xa Wx) (EscA σ ρ (esc a ++ esc b)) F H σ ((evalE G fe b ρ).bind fun y => .of ((dKey d1).map fun _ => PyData.dict [(d1, y)])) (fun d F' H' => ∀ v, RepX true X.K H F' H' v d → Q v H') := q
    cases hb : evalE G fe b ρ with
    | bad => rw [hb] at q; exact q.elim
    | exc c => rw [hb] at q; exact fun F' H' e => q F' H' (e0.trans (e1.trans e (fun _ => esc_l (b := esc b)) fun _ => esc_r) (fun _ z => z) fun _ z => z)
    | ok d2 =>
      rw [hb] at q
      intro F2 H2 e2 v2 r2
      have q : After (wOf xa Wx) (EscA σ ρ (esc a ++ esc b)) F H σ (.of ((dKey d1).map fun _ => PyData.dict [(d1, d2)])) (fun d F' H' => ∀ v, RepX true X.K H F' H' v d → Q v H') := q
      obtain ⟨d, hd, kk⟩ := q.of
      obtain ⟨key, hkey, rfl⟩ := Option.map_eq_some_iff.mp hd
      have e02 : Ext (EscA σ ρ (esc a ++ esc b)) F (upd H p (.dK [])) F2 H2 := e1.trans e2 (fun _ => esc_l) fun _ => esc_r
      have H2p : H2 p = some (.dK []) := e02.same.keep p _ upd_same rfl
      have F2p : F2 p = none := by
        cases z : F2 p with
        | none => rfl
        | some o =>
          rcases e02.new p o z with w | w | w
          · rw [inn.free hp] at w; cases w
          · rw [upd_same] at w; cases w
          · exact (noE _ w).elim
      obtain ⟨rfl, ko⟩ : v1 = kV key ∧ KOk key := (Rep.b e1.inn.sub r1).key hkey
      refine ⟨H2p, [(key, v2)], rfl, by simp, ?_⟩
      have ek : d1 = keyD key := by
        cases d1 with
        | int i => cases hkey; rfl
        | str s => cases hkey; rfl
        | _ => cases hkey
      rw [ek] at kk
      exact kk F2 _ ((e0.trans e02 (fun _ z => z) fun _ z => z).growK hp F2p H2p) _ ⟨p, [(key, v2)], rfl, hp, F2p, upd_same, .cons ko r2 .nil⟩
theorem RepK.keyAt {K : PySem.W.Frag} {F : Hp} : ∀ {vs : List (Key × V)} {kvs : List (D × D)} {i : Nat} {d : D}, RepK K F vs kvs → (kvs.map (·.1))[i]? = some d → ∃ k v, vs[i]? = some (k, v) ∧ Rep K F (kV k) d
  | _, _, _, _, .nil, e => by simp at e
  | _, _, 0, d, .cons (k := k) (v := v) ko rv rs, e => by
    simp at e
    refine ⟨k, v, rfl, ?_⟩
    rw [← e]
    cases k with
    | inl j => exact .int j
    | inr x => exact .str ko
  | _, _, i + 1, d, .cons ko rv rs, e => by
    obtain ⟨k, v, h1, h2⟩ := RepK.keyAt (i := i) (d := d) rs (by simpa using e)
    exact ⟨k, v, by simpa using h1, h2⟩
theorem walk_keys (K : PySem.W.Frag) (p : Addr) (o : Obj) (vs : List (Key × V)) (kvs : List (D × D)) : WalkD false K (Itk p o vs) (kvs.map (·.1)) (fun F H => H p = some (.frz o (.dK vs)) ∧ RepK K F vs kvs) where
  mono := fun e h => ⟨e.same.keep _ _ h.1 rfl, h.2.mono e.sub⟩
  go := fun {i d F H} inn h e => by
    obtain ⟨k, v, hv, r⟩ := h.2.keyAt e
    have hl : i < vs.length := by
      rcases Nat.lt_or_ge i vs.length with z | z
      · exact z
      · rw [List.getElem?_eq_none z] at hv; cases hv
    refine ⟨⟨h.1, hl⟩, fun x H' y => ?_⟩
    obtain ⟨rfl, k', v', hk', rfl⟩ := y
    rw [hv] at hk'
    cases hk'
    exact ⟨F, Ext.refl inn, r.w⟩
  stop := fun _ h e => ⟨h.1, by rw [List.length_map] at e; rw [h.2.length]; exact e⟩
theorem pe_bndK {X : Cx} {e : Expr} {te : TE} (h : PE X e te) : PE X e (fun σ H Q => te σ H fun x H1 => (∀ a o kvs, x = .ref a → H1 a = some (.frz o (.dK kvs)) → kvs.length ≤ sizeLine) → Q x H1) := by
  refine ⟨fun pins s σ H Q I hw => thn (h.run pins s σ H _ I hw) fun u s1 ⟨v, H', I', r, q⟩ => ⟨v, H', I', r, q fun a o kvs _ hs => ?_⟩⟩
  exact (dk_rd I'.hok (.inr ⟨o, hs⟩)).1
theorem lckK_ok {K : PySem.W.Frag} {F H : Hp} {σ : St} {ρ : Env} (st : StOk K F H σ ρ) {i : Nat} {kvs : List (D × D)} (h : lckK ρ i = .ok kvs) : ρ.at i = some (.lck (.dict kvs)) ∧ ∃ p vs o, σ[i]? = some (some (.ref p)) ∧ H p = some (.frz o (.dK vs)) ∧ RepK K F vs kvs ∧ F p = none := by
  unfold lckK at h
  split at h
  · rename_i ks hat
    cases h
    obtain ⟨v, hv, p, vs, o, rfl, hp, r, hF⟩ := st.ok i _ hat
    exact ⟨hat, p, vs, o, hv, hp, r, hF⟩
  · cases h
theorem lckK_nox {ρ : Env} {i : Nat} {c : Str} (h : lckK ρ i = .exc c) : False := by
  unfold lckK at h
  split at h <;> cases h
theorem pi_itd {X : Cx} {Wx : WX} {i : Nat} {x : Str} {pos : Pos} {tg : Expr} (h : slotOk X.N X.env.scope i x = true) : PI X tg (.Name x pos) (tI X.K G fe (wOf xa Wx) (.itd i)) := by
  obtain ⟨h1, h2, h3, h4⟩ := slot_vis h
  refine (pi_keys (tg := tg) (pe_bndK (pe_var h1 h2 h3 h4))).weak fun σ H R q => ?_
  obtain ⟨F, ρ, inn, st, q⟩ := q
  have q : After (wOf xa Wx) (EscA σ ρ []) F H σ ((lckK ρ i).bind fun kvs => .ok (kvs.map (·.1))) _ := q
  cases hk : lckK ρ i with
  | bad => rw [hk] at q; exact q.elim
  | exc c => exact (lckK_nox hk).elim
  | ok kvs =>
    rw [hk] at q
    obtain ⟨hat, p, vs, o, hs, hp, r, hF⟩ := lckK_ok st hk
    refine ⟨.ref p, hs, fun hb => ⟨p, o, rfl, .inl ⟨vs, hp, ?_⟩⟩⟩
    exact q F H (Ext.refl inn) _ _ (walk_keys X.K p o vs kvs) ⟨hp, r⟩ (by rw [List.length_map, ← r.length]; exact hb p o vs rfl hp)
end G7

namespace G7
open L2 PyProof.Rows PySem.Spec PySem
variable {nm : Nms} {G : Nat → Option D} {fe : Nat → List D → Res D} {xa : Str → Addr}
theorem plain_iter {x : Expr} (h : plainR x = true) (env : PySem.Env) (v : Value) : foldedSetIterable x env v = pure v := by
  cases x <;> first | rfl | cases h
theorem own_slots (N : List Str) (t : Tg) : (ownOf' N t).map (·.2) = t.slots := by
  unfold ownOf'
  rw [List.map_map]
  exact List.map_id _
theorem wNo {σ : St} {H : Hp} {c : Str} : wOf xa noW c σ H = False := rfl
/-- new tuples are taken apart at once -/
theorem en_tp {N N' : List Str} {sc sc' : Scope} {fnb : Str → Bool} {t : Tg} {it : E} {tg x : Expr} (h : chkI nm N sc tg it x = true) (h' : chkTg N' sc' fnb t tg = true) : isEn it = true → isTp t = true := by
  intro he
  have tup : ∃ es k p, tg = .Tuple es k p := by
    cases it with
    | enum a =>
      cases x with
      | Call f args kws pos =>
        cases f with
        | Name n p =>
          rcases args with _ | ⟨y, _ | ⟨_, _⟩⟩
          · unfold chkI at h; cases h
          · cases kws with
            | nil =>
              unfold chkI at h
              simp only [Bool.and_eq_true] at h
              cases tg with
              | Tuple es k p => exact ⟨es, k, p, rfl⟩
              | _ => cases h.2
            | cons _ _ => unfold chkI at h; cases h
          · unfold chkI at h; cases h
        | _ => unfold chkI at h; cases h
      | _ => unfold chkI at h; cases h
    | zip a b =>
      cases x with
      | Call f args kws pos =>
        cases f with
        | Name n p =>
          rcases args with _ | ⟨y, _ | ⟨z, _ | ⟨_, _⟩⟩⟩
          · unfold chkI at h; cases h
          · unfold chkI at h; cases h
          · cases kws with
            | nil =>
              unfold chkI at h
              simp only [Bool.and_eq_true] at h
              cases tg with
              | Tuple es k p => exact ⟨es, k, p, rfl⟩
              | _ => cases h.2
            | cons _ _ => unfold chkI at h; cases h
          · unfold chkI at h; cases h
        | _ => unfold chkI at h; cases h
      | _ => unfold chkI at h; cases h
    | _ => cases he
  obtain ⟨es, k, p, rfl⟩ := tup
  cases t with
  | tp ts => rfl
  | _ => unfold chkTg at h'; cases h'
theorem e_lc {X : Cx} {Wx : WX} (g : Good nm G fe xa Wx X) {elt it cs : E} {t : Tg} {x tg iter : Expr} {ifs : List Expr} {scope : Scope} {pos : Pos} (se : Snd nm G fe xa elt) (si : Snd nm G fe xa it) (sc : Snd nm G fe xa cs)
    (h1 : chkI nm X.N X.env.scope tg it iter = true) (h2 : plainR iter = true) (h3 : blkC X.N X.env.scope scope (ownOf' X.N t) = true) (h4 : chkTg X.N (relS scope X.env.scope) (fun x => scope.names.lookup x == some .cell) t tg = true)
    (h5 : chkC nm X.N (relS scope X.env.scope) cs ifs = true) (h7 : chkE nm X.N (relS scope X.env.scope) elt x = true) : PE X (.ListComp x [⟨tg, iter, ifs, 0⟩] scope pos) (tX X.K G fe (wOf xa Wx) (.lc elt t it cs)) := by
  have key := pe_lc (X := X) (elt := x) (tg := tg) (iter := iter) (ifs := ifs) (scope := scope) (own := ownOf' X.N t) (pos := pos) (wi := tI X.K G fe (wOf xa Wx) it) (g := tG X.K t) (tt := tC X.K G fe (fun _ _ _ => False) cs) (te := tE X.K G fe (fun _ _ _ => False) elt)
    g.calm g.nd (si.it g tg iter h1) (blkOk_by h3)
    (fun s H C cl fp => soundG (X := X.blk s H scope (compEnvC scope cl C X.env) fp) g.nd g.calm t tg h4)
    (fun s H C cl fp => sc.cd (X := X.blk s H scope (compEnvC scope cl C X.env) fp) (Wx := noW) (g.blk s H scope _ fp) ifs h5)
    (fun s H C cl fp => se.ee (X := X.blk s H scope (compEnvC scope cl C X.env) fp) (Wx := noW) (g.blk s H scope _ fp) x h7)
    (fun v => plain_iter h2 _ v)
  refine key.weak fun σ H Q q => ?_
  rw [own_slots]
  exact lc_read (en_tp h1 h4) q
theorem s_lc {elt it cs : E} (t : Tg) (se : Snd nm G fe xa elt) (si : Snd nm G fe xa it) (sc : Snd nm G fe xa cs) : Snd nm G fe xa (.lc elt t it cs) := by
  (refine snd_flat ?_ ?_ ?_ ?_ ?_ ?_ ?_; rotate_left 1; (intro N sc pe h env w; cases pe <;> first | rfl | (unfold chkE at h; cases h)); (intro N sc op xs pos; unfold chkE; rfl); (intro N sc xs; cases xs <;> (first | rfl | (unfold chkA; rfl))); (intro N sc xs; rcases xs with _ | ⟨_, _ | ⟨_, _⟩⟩ <;> (first | rfl | (unfold chkC; rfl))); (intro N sc tg x; unfold chkI; rfl); exact fun _ z => by cases z)
  intro X Wx g pe h
  cases pe with
  | ListComp x gens scope pos =>
    rcases gens with _ | ⟨⟨tg, iter, ifs, n⟩, _ | ⟨_, _⟩⟩
    · unfold chkE at h; cases h
    · rcases n with (_ | n) | n
      · change chkE nm X.N X.env.scope (.lc elt t it cs) (.ListComp x [⟨tg, iter, ifs, 0⟩] scope pos) = true at h
        unfold chkE at h
        simp only [Bool.and_eq_true] at h
        obtain ⟨⟨⟨⟨⟨⟨h1, h2⟩, h3⟩, h4⟩, h5⟩, h6⟩, h7⟩ := h
        exact e_lc g se si sc h1 h2 h3 h4 h5 h7
      · unfold chkE at h; cases h
      · unfold chkE at h; cases h
    · rcases n with (_ | n) | n <;> (unfold chkE at h; cases h)
  | _ => unfold chkE at h; cases h
theorem s_rng1 {a : E} (sa : Snd nm G fe xa a) : Snd nm G fe xa (.rng1 a) where
  ev g pe h := by unfold chkE at h; cases h
  ts g pe _ h := by unfold chkE at h; cases h
  wt g op xs pos h := by unfold chkE at h; cases h
  ar g xs h := by cases xs <;> (unfold chkA at h; cases h)
  cd g xs h := by rcases xs with _ | ⟨_, _ | ⟨_, _⟩⟩ <;> (unfold chkC at h; cases h)
  it g tg x h := by
    cases x with
    | Call f args kws pos =>
      cases f with
      | Name n p =>
        rcases args with _ | ⟨y, _ | ⟨_, _⟩⟩
        · unfold chkI at h; cases h
        · cases kws with
          | nil =>
            unfold chkI at h
            simp only [Bool.and_eq_true, decide_eq_true_eq] at h
            obtain ⟨⟨⟨e, h1⟩, h2⟩, h3⟩ := h
            subst e
            exact pi_rg1 g h1 h2 (sa.ee g y h3)
          | cons _ _ => unfold chkI at h; cases h
        · unfold chkI at h; cases h
      | _ => unfold chkI at h; cases h
    | _ => unfold chkI at h; cases h
theorem s_rng2 {a b : E} (sa : Snd nm G fe xa a) (sb : Snd nm G fe xa b) : Snd nm G fe xa (.rng2 a b) where
  ev g pe h := by unfold chkE at h; cases h
  ts g pe _ h := by unfold chkE at h; cases h
  wt g op xs pos h := by unfold chkE at h; cases h
  ar g xs h := by cases xs <;> (unfold chkA at h; cases h)
  cd g xs h := by rcases xs with _ | ⟨_, _ | ⟨_, _⟩⟩ <;> (unfold chkC at h; cases h)
  it g tg x h := by
    cases x with
    | Call f args kws pos =>
      cases f with
      | Name n p =>
        rcases args with _ | ⟨y, _ | ⟨z, _ | ⟨_, _⟩⟩⟩
        · unfold chkI at h; cases h
        · unfold chkI at h; cases h
        · cases kws with
          | nil =>
            unfold chkI at h
            simp only [Bool.and_eq_true, decide_eq_true_eq] at h
            obtain ⟨⟨⟨⟨⟨e, h1⟩, h2⟩, h3⟩, h4⟩, h5⟩ := h
            subst e
            exact pi_rg2 g h1 h2 h3 (sa.ee g y h4) (sb.ee g z h5)
          | cons _ _ => unfold chkI at h; cases h
        · unfold chkI at h; cases h
      | _ => unfold chkI at h; cases h
    | _ => unfold chkI at h; cases h
theorem s_enum {a : E} (sa : Snd nm G fe xa a) : Snd nm G fe xa (.enum a) where
  ev g pe h := by unfold chkE at h; cases h
  ts g pe _ h := by unfold chkE at h; cases h
  wt g op xs pos h := by unfold chkE at h; cases h
  ar g xs h := by cases xs <;> (unfold chkA at h; cases h)
  cd g xs h := by rcases xs with _ | ⟨_, _ | ⟨_, _⟩⟩ <;> (unfold chkC at h; cases h)
  it g tg x h := by
    cases x with
    | Call f args kws pos =>
      cases f with
      | Name n p =>
        rcases args with _ | ⟨y, _ | ⟨_, _⟩⟩
        · unfold chkI at h; cases h
        · cases kws with
          | nil =>
            unfold chkI at h
            simp only [Bool.and_eq_true, decide_eq_true_eq] at h
            obtain ⟨⟨⟨⟨e, h1⟩, h2⟩, h3⟩, h4⟩ := h
            subst e
            cases tg with
            | Tuple elts kk tp => exact pi_en g h1 h2 (sa.ee g y h3)
            | _ => cases h4
          | cons _ _ => unfold chkI at h; cases h
        · unfold chkI at h; cases h
      | _ => unfold chkI at h; cases h
    | _ => unfold chkI at h; cases h
theorem s_dct1 {a b : E} (sa : Snd nm G fe xa a) (sb : Snd nm G fe xa b) : Snd nm G fe xa (.dct1 a b) := by
  refine snd_flat ?_ ?_ ?_ ?_ ?_ ?_ ?_
  rotate_left 1
  · intro N sc pe h env w
    cases pe <;> first | rfl | (unfold chkE at h; cases h)
  · (intro N sc op xs pos; unfold chkE; rfl)
  · (intro N sc xs; cases xs <;> (first | rfl | (unfold chkA; rfl)))
  · (intro N sc xs; rcases xs with _ | ⟨_, _ | ⟨_, _⟩⟩ <;> (first | rfl | (unfold chkC; rfl)))
  · (intro N sc tg x; unfold chkI; rfl)
  · exact fun _ z => by cases z
  intro X Wx g pe h
  cases pe with
  | Dict ks vs pos =>
    rcases ks with _ | ⟨_ | k, _ | ⟨_, _⟩⟩
    · unfold chkE at h; cases h
    · rcases vs with _ | ⟨v, _ | ⟨_, _⟩⟩ <;> (unfold chkE at h; cases h)
    · rcases vs with _ | ⟨v, _ | ⟨_, _⟩⟩ <;> (unfold chkE at h; cases h)
    · rcases vs with _ | ⟨v, _ | ⟨_, _⟩⟩
      · unfold chkE at h; cases h
      · unfold chkE at h
        simp only [Bool.and_eq_true] at h
        exact pe_dct1 (sa.ee g k h.1.2) (sb.ee g v h.2)
      · unfold chkE at h; cases h
    · rcases vs with _ | ⟨v, _ | ⟨_, _⟩⟩ <;> (unfold chkE at h; cases h)
  | _ => unfold chkE at h; cases h
theorem s_itd (i : Nat) : Snd nm G fe xa (.itd i) where
  ev g pe h := by unfold chkE at h; cases h
  ts g pe _ h := by unfold chkE at h; cases h
  wt g op xs pos h := by unfold chkE at h; cases h
  ar g xs h := by cases xs <;> (unfold chkA at h; cases h)
  cd g xs h := by rcases xs with _ | ⟨_, _ | ⟨_, _⟩⟩ <;> (unfold chkC at h; cases h)
  it g tg x h := by
    cases x with
    | Name n p =>
      unfold chkI at h
      exact pi_itd h
    | _ => unfold chkI at h; cases h
theorem s_zip {a b : E} (sa : Snd nm G fe xa a) (sb : Snd nm G fe xa b) : Snd nm G fe xa (.zip a b) where
  ev g pe h := by unfold chkE at h; cases h
  ts g pe _ h := by unfold chkE at h; cases h
  wt g op xs pos h := by unfold chkE at h; cases h
  ar g xs h := by cases xs <;> (unfold chkA at h; cases h)
  cd g xs h := by rcases xs with _ | ⟨_, _ | ⟨_, _⟩⟩ <;> (unfold chkC at h; cases h)
  it g tg x h := by
    cases x with
    | Call f args kws pos =>
      cases f with
      | Name n p =>
        rcases args with _ | ⟨y, _ | ⟨z, _ | ⟨_, _⟩⟩⟩
        · unfold chkI at h; cases h
        · unfold chkI at h; cases h
        · cases kws with
          | nil =>
            unfold chkI at h
            simp only [Bool.and_eq_true, decide_eq_true_eq] at h
            obtain ⟨⟨⟨⟨⟨⟨e, h1⟩, h2⟩, h3⟩, h4⟩, h5⟩, h6⟩ := h
            subst e
            cases tg with
            | Tuple elts kk tp => exact pi_zp g h1 h2 h3 (sa.ee g y h4) (sb.ee g z h5)
            | _ => cases h6
          | cons _ _ => unfold chkI at h; cases h
        · unfold chkI at h; cases h
      | _ => unfold chkI at h; cases h
    | _ => unfold chkI at h; cases h
theorem sound (e : E) : Snd nm G fe xa e := by
  have key : ∀ e : E, Snd nm G fe xa e ∧ (∀ a b, e = .cons a b → Snd nm G fe xa a ∧ Snd nm G fe xa b) ∧ (∀ a b c, e = .cons a (.cons b c) → Snd nm G fe xa b) := by
    intro e
    induction e with
    | var i => exact ⟨s_var i, fun _ _ z => (by cases z), fun _ _ _ z => by cases z⟩
    | glob i => exact ⟨s_glob i, fun _ _ z => (by cases z), fun _ _ _ z => by cases z⟩
    | kI i => exact ⟨s_kI i, fun _ _ z => (by cases z), fun _ _ _ z => by cases z⟩
    | kS i => exact ⟨s_kS i, fun _ _ z => (by cases z), fun _ _ _ z => by cases z⟩
    | kB i => exact ⟨s_kB i, fun _ _ z => (by cases z), fun _ _ _ z => by cases z⟩
    | kN => exact ⟨s_kN, fun _ _ z => (by cases z), fun _ _ _ z => by cases z⟩
    | nil => exact ⟨s_nil, fun _ _ z => (by cases z), fun _ _ _ z => by cases z⟩
    | cons a b ia ib => exact ⟨s_cons ia.1 ib.1, fun _ _ z => (by cases z; exact ⟨ia.1, ib.1⟩), fun _ _ _ z => by cases z; exact (ib.2.1 _ _ rfl).1⟩
    | tup a ia => exact ⟨s_tup ia.1, fun _ _ z => (by cases z), fun _ _ _ z => by cases z⟩
    | lst a ia => exact ⟨s_lst ia.1, fun _ _ z => (by cases z), fun _ _ _ z => by cases z⟩
    | dnew => exact ⟨s_dnew, fun _ _ z => (by cases z), fun _ _ _ z => by cases z⟩
    | dct1 a b ia ib => exact ⟨s_dct1 ia.1 ib.1, fun _ _ z => (by cases z), fun _ _ _ z => by cases z⟩
    | op o a b ia ib => exact ⟨s_op o ia.1 ib.1, fun _ _ z => (by cases z), fun _ _ _ z => by cases z⟩
    | neg a ia => exact ⟨s_neg ia.1, fun _ _ z => (by cases z), fun _ _ _ z => by cases z⟩
    | cmp o a b ia ib => exact ⟨s_cmp o ia.1 ib.1, fun _ _ z => (by cases z), fun _ _ _ z => by cases z⟩
    | chain o1 o2 a b c ia ib ic => exact ⟨s_chain o1 o2 ia.1 ib.1 ic.1, fun _ _ z => (by cases z), fun _ _ _ z => by cases z⟩
    | and a b ia ib => exact ⟨s_and ia.1 ib.1, fun _ _ z => (by cases z), fun _ _ _ z => by cases z⟩
    | or a b ia ib => exact ⟨s_or ia.1 ib.1, fun _ _ z => (by cases z), fun _ _ _ z => by cases z⟩
    | one a ia => exact ⟨s_one ia.1, fun _ _ z => (by cases z), fun _ _ _ z => by cases z⟩
    | not a ia => exact ⟨s_not ia.1, fun _ _ z => (by cases z), fun _ _ _ z => by cases z⟩
    | ite c a b ic ia ib => exact ⟨s_ite ic.1 ia.1 ib.1, fun _ _ z => (by cases z), fun _ _ _ z => by cases z⟩
    | idx a b ia ib => exact ⟨s_idx ia.1 ib.1, fun _ _ z => (by cases z), fun _ _ _ z => by cases z⟩
    | slc a b c ia ib ic => exact ⟨s_slc ia.1 ib.1 ic.1, fun _ _ z => (by cases z), fun _ _ _ z => by cases z⟩
    | call f a ia => exact ⟨s_call f ia.1, fun _ _ z => (by cases z), fun _ _ _ z => by cases z⟩
    | bt b a ia => exact ⟨s_bt b ia.1 (fun k c z => (ia.2.1 _ _ z).1) (fun k c z => ia.2.2 _ _ _ z), fun _ _ z => (by cases z), fun _ _ _ z => by cases z⟩
    | isi a ts ia => exact ⟨s_isi ts ia.1, fun _ _ z => (by cases z), fun _ _ _ z => by cases z⟩
    | lc elt t it cs ie ii ic => exact ⟨s_lc t ie.1 ii.1 ic.1, fun _ _ z => (by cases z), fun _ _ _ z => by cases z⟩
    | itd i => exact ⟨s_itd i, fun _ _ z => (by cases z), fun _ _ _ z => by cases z⟩
    | rng1 a ia => exact ⟨s_rng1 ia.1, fun _ _ z => (by cases z), fun _ _ _ z => by cases z⟩
    | rng2 a b ia ib => exact ⟨s_rng2 ia.1 ib.1, fun _ _ z => (by cases z), fun _ _ _ z => by cases z⟩
    | enum a ia => exact ⟨s_enum ia.1, fun _ _ z => (by cases z), fun _ _ _ z => by cases z⟩
    | zip a b ia ib => exact ⟨s_zip ia.1 ib.1, fun _ _ z => (by cases z), fun _ _ _ z => by cases z⟩
  exact (key e).1
end G7

namespace G7
open L2 PyProof.Rows PySem.Spec PySem
/-! ### the state between statements -/
def Sl.mine : Sl → Prop
  | .own _ => True
  | _ => False
structure Sok (L : Nat → Option Addr) (K : PySem.W.Frag) (F0 H0 F H : Hp) (σ : St) (ρ : Env) : Prop where
  st : StOk K F H σ ρ
  ext : Ext Nil F0 H0 F H
  own : ∀ i s p, ρ.at i = some s → s.mine → σ[i]? = some (some (.ref p)) → F p = none ∧ H0 p = none
  dis : ∀ i j s t p, i ≠ j → ρ.at i = some s → s.mine → ρ.at j = some t → t.mine → σ[i]? = some (some (.ref p)) → σ[j]? ≠ some (some (.ref p))
  lk : ∀ i d, ρ.at i = some (.lck d) → ∃ p o vs, L i = some p ∧ σ[i]? = some (some (.ref p)) ∧ H0 p = some (.frz o (.dK vs))
section
variable {L : Nat → Option Addr} {K : PySem.W.Frag} {F0 H0 F H : Hp} {σ : St} {ρ : Env}
/-- an own thing stands -/
theorem StOk.mine_at (st : StOk K F H σ ρ) {i : Nat} {s : Sl} (h : ρ.at i = some s) (hm : s.mine) : ∃ p o, σ[i]? = some (some (.ref p)) ∧ H p = some o := by
  obtain ⟨v, hv, sl⟩ := st.ok i s h
  cases s with
  | dat d => exact hm.elim
  | own d =>
    cases d with
    | list ds => obtain ⟨p, vs, rfl, hp, _⟩ := sl; exact ⟨p, _, hv, hp⟩
    | dict ds => obtain ⟨p, vs, rfl, hp, _⟩ := sl; exact ⟨p, _, hv, hp⟩
    | _ => exact sl.elim
  | lck d => exact hm.elim
theorem Sok.inn (s : Sok L K F0 H0 F H σ ρ) : Inn F H := s.ext.inn
theorem Sok.out (s : Sok L K F0 H0 F H σ ρ) {js : List Nat} {F1 H1 : Hp} (e : Ext (EscA σ ρ js) F H F1 H1) : Ext Nil F0 H0 F1 H1 := by
  refine ⟨s.ext.sub.trans e.sub, s.ext.same.trans e.same, fun a o q => ?_, e.inn⟩
  rcases e.new a o q with q | q | q
  · exact s.ext.new a o q
  · exact .inr (.inl (s.ext.same.free q))
  · obtain ⟨j, _, ⟨d, hd⟩, hs⟩ := q
    exact .inr (.inl (s.own j _ a hd trivial hs).2)
theorem frzE_at : ∀ (js : List Nat) (i : Nat), (frzE ρ js).at i = if i ∈ js then (match ρ.at i with | some (.own d) => some (.dat d) | x => x) else ρ.at i
  | [], i => by simp [frzE]
  | j :: js, i => by
    have ih := fun i => frzE_at js i
    have hl : (frzE ρ js).length = ρ.length := by
      have : ∀ js : List Nat, (frzE ρ js).length = ρ.length := by
        intro js
        induction js with
        | nil => rfl
        | cons k ks ih =>
          unfold frzE
          split
          · rw [Env.put_length, ih]
          · exact ih
      exact this js
    unfold frzE
    by_cases hij : i = j
    · subst hij
      rw [if_pos List.mem_cons_self]
      split
      · rename_i d hd
        by_cases hlt : i < (frzE ρ js).length
        · rw [Env.at_put_self hlt]
          rw [ih i] at hd
          split at hd
          · cases hr : ρ.at i with
            | none => rw [hr] at hd; cases hd
            | some s =>
              rw [hr] at hd
              cases s with
              | own d' => cases hd
              | dat d' => cases hd
              | lck d' => cases hd
          · rw [hd]
        · rw [Env.at_ge (by omega)] at hd
          cases hd
      · rename_i hn
        rw [ih i]
        split
        · rfl
        · rename_i hni
          cases hr : ρ.at i with
          | none => rfl
          | some s =>
            cases s with
            | own d' =>
              exfalso
              refine hn d' ?_
              rw [ih i, if_neg hni, hr]
            | dat d' => rfl
            | lck d' => rfl
    · have e : ∀ x, ((frzE ρ js).put j x).at i = (frzE ρ js).at i := fun x => Env.at_put_ne hij
      have : (i ∈ j :: js) = (i ∈ js) := by simp [hij]
      simp only [this]
      split
      · rw [e, ih i]
      · rw [ih i]
theorem frzE_length : ∀ (js : List Nat), (frzE ρ js).length = ρ.length
  | [] => rfl
  | j :: js => by
    unfold frzE
    split
    · rw [Env.put_length, frzE_length js]
    · exact frzE_length js
theorem frz_lck {js : List Nat} {i : Nat} {d : D} (h : (frzE ρ js).at i = some (.lck d)) : ρ.at i = some (.lck d) := by
  rw [frzE_at] at h
  split at h
  · cases hr : ρ.at i with
    | none => rw [hr] at h; cases h
    | some x =>
      rw [hr] at h
      cases x with
      | own d => cases h
      | dat d => cases h
      | lck d => exact h
  · exact h
/-- what got out is data from now on -/
theorem Sok.frz (s : Sok L K F0 H0 F H σ ρ) {js : List Nat} {F1 H1 : Hp} (e : Ext (EscA σ ρ js) F H F1 H1) :
    ∃ F2, Sok L K F0 H0 F2 H1 σ (frzE ρ js) ∧ Sub F1 F2 ∧ (∀ p, H p = none → F2 p = F1 p) ∧ Ext (EscA σ ρ js) F H F2 H1 := by
  classical
  have obj : ∀ {a}, EscA σ ρ js a → ∃ o, H a = some o ∧ isTbl o = false := by
    rintro a ⟨j, _, ⟨d, hd⟩, hs⟩
    obtain ⟨v, hv, sl⟩ := s.st.ok j _ hd
    rw [hs] at hv
    cases hv
    cases d with
    | list ds => obtain ⟨p, vs, e, hp, _⟩ := sl; cases e; exact ⟨_, hp, rfl⟩
    | dict ds => obtain ⟨p, vs, e, hp, _⟩ := sl; cases e; exact ⟨_, hp, rfl⟩
    | _ => exact sl.elim
  let F2 : Hp := fun a => if EscA σ ρ js a then H1 a else F1 a
  have f2y : ∀ {a}, EscA σ ρ js a → F2 a = H1 a := fun h => if_pos h
  have f2n : ∀ {a}, ¬ EscA σ ρ js a → F2 a = F1 a := fun h => if_neg h
  have sub12 : Sub F1 F2 := fun a o q => by
    by_cases h : EscA σ ρ js a
    · rw [f2y h]; exact e.inn.sub a o q
    · rw [f2n h]; exact q
  have inn2 : Inn F2 H1 := by
    refine ⟨fun a o q => ?_, fun a o q => ?_⟩
    · by_cases h : EscA σ ρ js a
      · rw [f2y h] at q; exact q
      · rw [f2n h] at q; exact e.inn.sub a o q
    · by_cases h : EscA σ ρ js a
      · rw [f2y h] at q
        obtain ⟨o', h1, h2⟩ := obj h
        rw [e.same.keep a o' h1 h2] at q
        cases q
        exact h2
      · rw [f2n h] at q; exact e.inn.plain a o q
  have e2 : Ext (EscA σ ρ js) F H F2 H1 := by
    refine ⟨e.sub.trans sub12, e.same, fun a o q => ?_, inn2⟩
    by_cases h : EscA σ ρ js a
    · exact .inr (.inr h)
    · rw [f2n h] at q; exact e.new a o q
  have st2 : StOk K F2 H1 σ ρ := s.st.ext e2 s.inn
  have back : ∀ {i t}, (frzE ρ js).at i = some t → t.mine → ρ.at i = some t ∧ ((∃ d, ρ.at i = some (.own d)) → i ∉ js) := by
    intro i t h hm
    rw [frzE_at] at h
    split at h
    · cases hr : ρ.at i with
      | none => rw [hr] at h; cases h
      | some x =>
        rw [hr] at h
        cases x with
        | own d => cases h; exact hm.elim
        | dat d => cases h; exact hm.elim
        | lck d => cases h; exact hm.elim
    · rename_i hni
      exact ⟨h, fun _ => hni⟩
  refine ⟨F2, ⟨⟨by rw [frzE_length]; exact s.st.len, st2.tab, fun i t h => ?_⟩, s.out e2, fun i t p h hm hs => ?_, fun i j t u p hij h1 m1 h2 m2 => s.dis i j t u p hij (back h1 m1).1 m1 (back h2 m2).1 m2, fun i d h => s.lk i d (frz_lck h)⟩, sub12, fun p hp => ?_, e2⟩
  · rw [frzE_at] at h
    split at h
    · rename_i hj
      cases hr : ρ.at i with
      | none => rw [hr] at h; cases h
      | some x =>
        rw [hr] at h
        cases x with
        | dat d => cases h; exact st2.ok i _ hr
        | lck d => cases h; exact st2.ok i _ hr
        | own d =>
          cases h
          obtain ⟨v, hv, sl⟩ := s.st.ok i _ hr
          refine ⟨v, hv, ?_⟩
          cases d with
          | list ds =>
            obtain ⟨p, vs, rfl, hp, r, _⟩ := sl
            have he : EscA σ ρ js p := ⟨i, hj, ⟨_, hr⟩, hv⟩
            exact Rep.lst (.inl (by rw [f2y he]; exact e.same.keep p _ hp rfl)) (r.mono e2.sub)
          | dict ds =>
            obtain ⟨p, vs, rfl, hp, r, _⟩ := sl
            have he : EscA σ ρ js p := ⟨i, hj, ⟨_, hr⟩, hv⟩
            exact Rep.dct (by rw [f2y he]; exact e.same.keep p _ hp rfl) (r.mono e2.sub)
          | _ => exact sl.elim
    · exact st2.ok i t h
  · obtain ⟨hr, hnj⟩ := back h hm
    obtain ⟨fp, hp0⟩ := s.own i t p hr hm hs
    refine ⟨?_, hp0⟩
    have hne : ¬ EscA σ ρ js p := by
      rintro ⟨j, hj, ⟨d, hd⟩, hsj⟩
      by_cases hij : i = j
      · subst hij; exact hnj ⟨d, hd⟩ hj
      · exact s.dis i j _ _ p hij hr hm hd trivial hs hsj
    rw [f2n hne]
    cases q : F1 p with
    | none => rfl
    | some o =>
      rcases e.new p o q with z | z | z
      · rw [fp] at z; cases z
      · obtain ⟨p', o', h1, h2⟩ := s.st.mine_at hr hm
        rw [hs] at h1
        cases h1
        rw [z] at h2; cases h2
      · exact (hne z).elim
  · have hne : ¬ EscA σ ρ js p := fun z => by obtain ⟨o, h1, _⟩ := obj z; rw [hp] at h1; cases h1
    exact f2n hne
theorem put_dat_at {ρ : Env} {i j : Nat} {d : D} {s : Sl} (h : (ρ.put i (some (.dat d))).at j = some s) (hm : s.mine) : j ≠ i ∧ ρ.at j = some s := by
  by_cases hj : j = i
  · subst hj
    by_cases hl : j < ρ.length
    · rw [Env.at_put_self hl] at h; cases h; exact hm.elim
    · rw [Env.at_ge (by rw [Env.put_length]; omega)] at h; cases h
  · rw [Env.at_put_ne hj] at h
    exact ⟨hj, h⟩
theorem put_lck {ρ : Env} {i j : Nat} {t : Sl} {d : D} (h : (ρ.put i (some t)).at j = some (.lck d)) (ht : ∀ d, t ≠ .lck d) : j ≠ i ∧ ρ.at j = some (.lck d) := by
  by_cases hj : j = i
  · subst hj
    by_cases hl : j < ρ.length
    · rw [Env.at_put_self hl] at h; cases h; exact (ht _ rfl).elim
    · rw [Env.at_ge (by rw [Env.put_length]; omega)] at h; cases h
  · rw [Env.at_put_ne hj] at h
    exact ⟨hj, h⟩
theorem Sok.put (s : Sok L K F0 H0 F H σ ρ) (i : Nat) {v : V} {d : D} (r : Rep K F v d) : Sok L K F0 H0 F H (σ.set i (some v)) (ρ.put i (some (.dat d))) := by
  refine ⟨s.st.put i r, s.ext, fun j t p h hm hs => ?_, fun j k t u p hjk h1 m1 h2 m2 h3 => ?_, fun j d' h => ?_⟩
  rotate_left 2
  · obtain ⟨hj, h⟩ := put_lck h (fun d'' z => by cases z)
    rw [List.getElem?_set_ne (Ne.symm hj)]
    exact s.lk j d' h
  · obtain ⟨hj, h⟩ := put_dat_at h hm
    rw [List.getElem?_set_ne (Ne.symm hj)] at hs
    exact s.own j t p h hm hs
  · obtain ⟨hj, h1⟩ := put_dat_at h1 m1
    obtain ⟨hk, h2⟩ := put_dat_at h2 m2
    rw [List.getElem?_set_ne (Ne.symm hj)] at h3
    rw [List.getElem?_set_ne (Ne.symm hk)]
    exact s.dis j k t u p hjk h1 m1 h2 m2 h3
/-- a new thing of one's own -/
theorem Sok.putOwn (s : Sok L K F0 H0 F H σ ρ) (i : Nat) {p : Addr} {d : D} (r : OwnOk K F H (.ref p) d) (hF : F p = none) (h0 : H0 p = none) (hn : ∀ j t, ρ.at j = some t → t.mine → σ[j]? ≠ some (some (.ref p))) : Sok L K F0 H0 F H (σ.set i (some (.ref p))) (ρ.put i (some (.own d))) := by
  have at' : ∀ {j t}, (ρ.put i (some (.own d))).at j = some t → (j = i ∧ t = .own d ∧ (σ.set i (some (.ref p)))[j]? = some (some (.ref p))) ∨ (j ≠ i ∧ ρ.at j = some t ∧ (σ.set i (some (.ref p)))[j]? = σ[j]?) := by
    intro j t h
    by_cases hj : j = i
    · subst hj
      by_cases hl : j < ρ.length
      · rw [Env.at_put_self hl] at h; cases h
        exact .inl ⟨rfl, rfl, by rw [List.getElem?_set_self (by rw [← s.st.len]; exact hl)]⟩
      · rw [Env.at_ge (by rw [Env.put_length]; omega)] at h; cases h
    · rw [Env.at_put_ne hj] at h
      exact .inr ⟨hj, h, by rw [List.getElem?_set_ne (Ne.symm hj)]⟩
  refine ⟨s.st.put i (s := .own d) r, s.ext, fun j t q h hm hs => ?_, fun j k t u q hjk h1 m1 h2 m2 h3 h4 => ?_, fun j d' h => ?_⟩
  rotate_left 2
  · obtain ⟨hj, h⟩ := put_lck h (fun d'' z => by cases z)
    rw [List.getElem?_set_ne (Ne.symm hj)]
    exact s.lk j d' h
  · rcases at' h with ⟨_, _, e⟩ | ⟨_, h, e⟩
    · rw [e] at hs; cases hs; exact ⟨hF, h0⟩
    · rw [e] at hs; exact s.own j t q h hm hs
  · rcases at' h1 with ⟨e1, _, e⟩ | ⟨n1, h1, e⟩ <;> rcases at' h2 with ⟨e2, _, e'⟩ | ⟨n2, h2, e'⟩
    · exact hjk (e1.trans e2.symm)
    · rw [e] at h3; cases h3; rw [e'] at h4; exact hn k u h2 m2 h4
    · rw [e'] at h4; cases h4; rw [e] at h3; exact hn j t h1 m1 h3
    · rw [e] at h3; rw [e'] at h4; exact s.dis j k t u q hjk h1 m1 h2 m2 h3 h4
/-- an own thing is changed -/
theorem Sok.mut (s : Sok L K F0 H0 F H σ ρ) {i : Nat} {p : Addr} {t0 t1 : Sl} {o : HO} (hi : ρ.at i = some t0) (hm : t0.mine) (hs : σ[i]? = some (some (.ref p))) (ho : isTbl o = false) (hm1 : t1.mine) (r : SlOk K F (upd H p o) (.ref p) t1) (hl1 : ∀ d, t1 ≠ .lck d := by intro d z; cases z) :
    Sok L K F0 H0 F (upd H p o) σ (ρ.put i (some t1)) := by
  obtain ⟨fp, h0⟩ := s.own i t0 p hi hm hs
  have hlt : i < ρ.length := by
    rcases Nat.lt_or_ge i ρ.length with h | h
    · exact h
    · rw [Env.at_ge h] at hi; cases hi
  have other : ∀ {j t}, j ≠ i → ρ.at j = some t → t.mine → σ[j]? ≠ some (some (.ref p)) := fun hj h m => s.dis i _ _ _ p (Ne.symm hj) hi hm h m hs
  have inn' : Inn F (upd H p o) := ⟨fun a u q => by rw [upd_ne (fun z => by rw [z, fp] at q; cases q)]; exact s.inn.sub a u q, s.inn.plain⟩
  have notX : (∀ ps, H p ≠ some (.tbl ps)) ∧ ∀ c q, H p ≠ some (LamX.CodeO c q) := by
    obtain ⟨v, hv, sl⟩ := s.st.ok i t0 hi
    rw [hs] at hv
    cases hv
    cases t0 with
    | dat d => exact hm.elim
    | lck d => exact hm.elim
    | own d =>
      cases d with
      | list ds => obtain ⟨p', vs, e, hp, _⟩ := sl; cases e; exact ⟨fun ps z => (by rw [hp] at z; cases z), fun c q z => (by rw [hp] at z; cases z)⟩
      | dict ds => obtain ⟨p', vs, e, hp, _⟩ := sl; cases e; exact ⟨fun ps z => (by rw [hp] at z; cases z), fun c q z => (by rw [hp] at z; cases z)⟩
      | _ => exact sl.elim
  have ks : Keeps H0 (upd H p o) := by
    refine ⟨fun a u q n => ?_, fun a ps q => ?_, fun P t => (s.ext.same.tab P t).over notX.1 notX.2⟩
    · rw [upd_ne (fun z => by rw [z, h0] at q; cases q)]; exact s.ext.same.keep a u q n
    · rw [upd_ne (fun z => by rw [z, h0] at q; cases q)]; exact s.ext.same.tbl a ps q
  have at' : ∀ {j t}, (ρ.put i (some t1)).at j = some t → (j = i ∧ t = t1) ∨ (j ≠ i ∧ ρ.at j = some t) := by
    intro j t h
    by_cases hj : j = i
    · subst hj; rw [Env.at_put_self hlt] at h; cases h; exact .inl ⟨rfl, rfl⟩
    · rw [Env.at_put_ne hj] at h; exact .inr ⟨hj, h⟩
  refine ⟨⟨by rw [Env.put_length]; exact s.st.len, fun x hx P h => (s.st.tab x hx P h).over notX.1 notX.2, fun j t h => ?_⟩, ⟨s.ext.sub, ks, s.ext.new, inn'⟩, fun j t q h m hq => ?_, fun j k t u q hjk h1 m1 h2 m2 h3 => ?_, fun j d' h => s.lk j d' (put_lck h hl1).2⟩
  · rcases at' h with ⟨rfl, rfl⟩ | ⟨hj, h⟩
    · exact ⟨.ref p, hs, r⟩
    · obtain ⟨v, hv, sl⟩ := s.st.ok j t h
      refine ⟨v, hv, ?_⟩
      cases t with
      | dat d => exact sl
      | own d =>
        have hne := other hj h trivial
        cases d with
        | list ds => obtain ⟨q, vs, rfl, hq, r⟩ := sl; exact ⟨q, vs, rfl, by rw [upd_ne (fun z => hne (by rw [hv, z]))]; exact hq, r⟩
        | dict ds => obtain ⟨q, vs, rfl, hq, r⟩ := sl; exact ⟨q, vs, rfl, by rw [upd_ne (fun z => hne (by rw [hv, z]))]; exact hq, r⟩
        | _ => exact sl.elim
      | lck d =>
        cases d with
        | dict ds =>
          obtain ⟨q, vs, oo, rfl, hq, r⟩ := sl
          obtain ⟨q', o', vs', _, hv', h0'⟩ := s.lk j _ h
          rw [hv] at hv'
          cases hv'
          exact ⟨q, vs, oo, rfl, by rw [upd_ne (fun z => by rw [z, h0] at h0'; cases h0')]; exact hq, r⟩
        | _ => exact sl.elim
  · rcases at' h with ⟨rfl, rfl⟩ | ⟨hj, h⟩
    · rw [hs] at hq; cases hq; exact ⟨fp, h0⟩
    · exact s.own j t q h m hq
  · rcases at' h1 with ⟨e1, _⟩ | ⟨n1, g1⟩ <;> rcases at' h2 with ⟨e2, _⟩ | ⟨n2, g2⟩
    · exact (hjk (e1.trans e2.symm)).elim
    · subst e1; rw [hs] at h3; cases h3; exact other n2 g2 m2
    · subst e2; intro h4; rw [hs] at h4; cases h4; exact other n1 g1 m1 h3
    · exact s.dis j k t u q hjk g1 m1 g2 m2 h3
/-- another base -/
theorem Sok.based (s : Sok L K F0 H0 F H σ ρ) : Sok L K F H0 F H σ ρ :=
  ⟨s.st, ⟨Sub.refl F, s.ext.same, fun _ _ q => .inl q, s.inn⟩, s.own, s.dis, s.lk⟩
theorem Sok.rebase {F1 H1 : Hp} (e : Ext Nil F0 H0 F1 H1) (s : Sok L K F1 H0 F H σ ρ) : Sok L K F0 H0 F H σ ρ :=
  ⟨s.st, ⟨e.sub.trans s.ext.sub, s.ext.same, fun a o q => by
    rcases s.ext.new a o q with q | q | q
    · exact e.new a o q
    · exact .inr (.inl q)
    · exact q.elim, s.inn⟩, s.own, s.dis, s.lk⟩
theorem Ext.rebase {F1 H1 : Hp} (e : Ext Nil F0 H0 F1 H1) (e2 : Ext Nil F1 H0 F H) : Ext Nil F0 H0 F H :=
  ⟨e.sub.trans e2.sub, e2.same, fun a o q => by
    rcases e2.new a o q with q | q | q
    · exact e.new a o q
    · exact .inr (.inl q)
    · exact q.elim, e2.inn⟩
end
end G7

namespace G7
open L2 PyProof.Rows PySem.Spec PySem
variable {nm : Nms} {G : Nat → Option D} {fe : Nat → List D → Res D} {xa : Str → Addr}
/-! ### contracts of statements -/
def Aft (L : Nat → Option Addr) (K : PySem.W.Frag) (W : Str → St → Hp → Prop) (F0 H0 : Hp) (D : Ends) : Res Fl → Prop
  | .ok (.next ρ') => ∀ σ' F' H', Sok L K F0 H0 F' H' σ' ρ' → D.nx σ' H'
  | .ok (.ret d) => ∀ v F' H', Ext Nil F0 H0 F' H' → Rep K F' v d → D.rt v H'
  | .ok (.cont ρ') => ∀ σ' F' H', Sok L K F0 H0 F' H' σ' ρ' → D.ct σ' H'
  | .ok (.brk ρ') => ∀ σ' F' H', Sok L K F0 H0 F' H' σ' ρ' → D.bk σ' H'
  | .exc c => ∀ σ' F' H', Ext Nil F0 H0 F' H' → W c σ' H'
  | .bad => False
theorem Aft.rebase {L : Nat → Option Addr} {K : PySem.W.Frag} {W : Str → St → Hp → Prop} {F0 H0 F1 H1 : Hp} {D : Ends} {r : Res Fl} (h : Aft L K W F0 H0 D r) (e : Ext Nil F0 H0 F1 H1) : Aft L K W F1 H0 D r := by
  cases r with
  | bad => exact h
  | exc c => exact fun σ' F' H' e2 => h σ' F' H' (e.rebase e2)
  | ok fl =>
    cases fl with
    | next ρ' => exact fun σ' F' H' s => h σ' F' H' (s.rebase e)
    | cont ρ' => exact fun σ' F' H' s => h σ' F' H' (s.rebase e)
    | brk ρ' => exact fun σ' F' H' s => h σ' F' H' (s.rebase e)
    | ret d => exact fun v F' H' e2 => h v F' H' (e.rebase e2)
def tS (K : PySem.W.Frag) (G : Nat → Option D) (fe : Nat → List D → Res D) (W : Str → St → Hp → Prop) (ec : Nat → Str) (s : S) : TS := fun D σ H => ∃ L F0 H0 F ρ, Sok L K F0 H0 F H σ ρ ∧ Aft L K W F0 H0 D (exec G fe ec s ρ)
theorem _root_.L2.PS.weak {X : Cx} {e : Stmt} {t t' : TS} (h : PS X e t) (w : ∀ D σ H, t' D σ H → t D σ H) : PS X e t' := ⟨fun pins s σ H D I h' => h.run pins s σ H D I (w D σ H h')⟩
theorem _root_.L2.PSs.weak {X : Cx} {e : List Stmt} {t t' : TS} (h : PSs X e t) (w : ∀ D σ H, t' D σ H → t D σ H) : PSs X e t' := ⟨fun pins s σ H D I h' => h.run pins s σ H D I (w D σ H h')⟩
section
variable {L : Nat → Option Addr} {K : PySem.W.Frag} {W : Str → St → Hp → Prop} {F0 H0 F H : Hp} {σ : St} {ρ : Env}
theorem RepX.sub {fr : Bool} {F1 F2 H1 : Hp} {v : V} {d : D} (r : RepX fr K H F1 H1 v d) (s : Sub F1 F2) (h : ∀ p, H p = none → F2 p = F1 p) : RepX fr K H F2 H1 v d := by
  cases fr with
  | false => cases d <;> exact Rep.mono s r
  | true =>
    cases d with
    | list ds => obtain ⟨p, vs, rfl, h0, h1, h2, r⟩ := r; exact ⟨p, vs, rfl, h0, by rw [h p h0]; exact h1, h2, r.mono s⟩
    | dict ds => obtain ⟨p, vs, rfl, h0, h1, h2, r⟩ := r; exact ⟨p, vs, rfl, h0, by rw [h p h0]; exact h1, h2, r.mono s⟩
    | none => exact Rep.mono s r
    | bool b => exact Rep.mono s r
    | int i => exact Rep.mono s r
    | str x => exact Rep.mono s r
    | tuple ds => exact Rep.mono s r
theorem frz_back {js : List Nat} {i : Nat} {t : Sl} (h : (frzE ρ js).at i = some t) (hm : t.mine) : ρ.at i = some t := by
  rw [frzE_at] at h
  split at h
  · cases hr : ρ.at i with
    | none => rw [hr] at h; cases h
    | some x =>
      rw [hr] at h
      cases x with
      | own d => cases h; exact hm.elim
      | dat d => exact h
      | lck d => exact h
  · exact h
/-- through an expression, to what is behind it -/
theorem ev_step (s : Sok L K F0 H0 F H σ ρ) {e : E} {f : D → Res Fl} {D' : Ends} (h : Aft L K W F0 H0 D' ((evalE G fe e ρ).bind f)) {Q : VK}
    (k : ∀ d, Aft L K W F0 H0 D' (f d) → ∀ F2 H1 v, Sok L K F0 H0 F2 H1 σ (frzE ρ (esc e)) → RepX (fresh e) K H F2 H1 v d → (∀ p, H p = none → H0 p = none ∧ ∀ j t, (frzE ρ (esc e)).at j = some t → t.mine → σ[j]? ≠ some (some (.ref p))) → Q v H1) : tX K G fe W e σ H Q := by
  refine ⟨F, ρ, s.inn, s.st, ?_⟩
  cases he : evalE G fe e ρ with
  | bad => rw [he] at h; exact h
  | exc c => rw [he] at h; exact fun F' H' e1 => h σ F' H' (s.out e1)
  | ok d =>
    rw [he] at h
    intro F1 H1 e1 v rx
    obtain ⟨F2, s2, sb, eq, _⟩ := s.frz e1
    refine k d h F2 H1 v s2 (rx.sub sb eq) fun p hp => ⟨s.ext.same.free hp, fun j t hj hm hs => ?_⟩
    obtain ⟨p', o, h1, h2⟩ := s.st.mine_at (frz_back hj hm) hm
    rw [hs] at h1
    cases h1
    rw [hp] at h2
    cases h2
/-- .. its value as data -/
theorem ev_stepE (s : Sok L K F0 H0 F H σ ρ) {e : E} {f : D → Res Fl} {D' : Ends} (h : Aft L K W F0 H0 D' ((evalE G fe e ρ).bind f)) {Q : VK}
    (k : ∀ d, Aft L K W F0 H0 D' (f d) → ∀ F2 H1 v, Ext (EscA σ ρ (esc e)) F H F2 H1 → Sok L K F0 H0 F2 H1 σ (frzE ρ (esc e)) → Rep K F2 v d → Q v H1) : tE K G fe W e σ H Q := by
  refine ⟨F, ρ, s.inn, s.st, ?_⟩
  cases he : evalE G fe e ρ with
  | bad => rw [he] at h; exact h
  | exc c => rw [he] at h; exact fun F' H' e1 => h σ F' H' (s.out e1)
  | ok d =>
    rw [he] at h
    intro F1 H1 e1 v rx
    obtain ⟨F2, s2, sb, eq, e2⟩ := s.frz e1
    exact k d h F2 H1 v e2 s2 (rx.mono sb)
/-- .. a test -/
theorem ev_stepT (s : Sok L K F0 H0 F H σ ρ) {e : E} {f : D → Res Fl} {D' : Ends} (h : Aft L K W F0 H0 D' ((evalE G fe e ρ).bind f)) {Q : Bool → Hp → Prop}
    (k : ∀ d, Aft L K W F0 H0 D' (f d) → ∀ F2 H1, Sok L K F0 H0 F2 H1 σ (frzE ρ (escB e)) → Q (truth d) H1) : tT K G fe W e σ H Q := by
  refine ⟨F, ρ, s.inn, s.st, ?_⟩
  cases he : evalE G fe e ρ with
  | bad => rw [he] at h; exact h
  | exc c => rw [he] at h; exact fun F' H' e1 => h σ F' H' (s.out e1)
  | ok d =>
    rw [he] at h
    intro F1 H1 e1
    obtain ⟨F2, s2, sb, eq, _⟩ := s.frz e1
    exact k d h F2 H1 s2
theorem Sok.bind (s : Sok L K F0 H0 F H σ ρ) {t : Tg} {d : D} {ρ' : Env} {σ' : St} (hb : bindT t d ρ = .ok ρ') (st : StOk K F H σ' ρ') (ho : ∀ j, j ∉ t.slots → σ'[j]? = σ[j]?) : Sok L K F0 H0 F H σ' ρ' := by
  have back : ∀ {j u}, ρ'.at j = some u → u.mine → ρ.at j = some u ∧ σ'[j]? = σ[j]? := by
    intro j u h hm
    obtain ⟨b1, b2⟩ := bindT_out (j := j) hb
    by_cases hj : j ∈ t.slots
    · obtain ⟨d', e⟩ := b2 u hj h
      subst e
      exact hm.elim
    · rw [← b1 hj]
      exact ⟨h, ho j hj⟩
  refine ⟨st, s.ext, fun j u p h hm hs => ?_, fun i j u w p hij h1 m1 h2 m2 h3 => ?_, fun j d' h => ?_⟩
  rotate_left 2
  · obtain ⟨b1, b2⟩ := bindT_out (j := j) hb
    by_cases hj : j ∈ t.slots
    · obtain ⟨d'', e⟩ := b2 _ hj h
      cases e
    · rw [ho j hj]
      exact s.lk j d' (by rw [← b1 hj]; exact h)
  · obtain ⟨h, e⟩ := back h hm
    rw [e] at hs
    exact s.own j u p h hm hs
  · obtain ⟨g1, e1⟩ := back h1 m1
    obtain ⟨g2, e2⟩ := back h2 m2
    rw [e1] at h3
    rw [e2]
    exact s.dis i j u w p hij g1 m1 g2 m2 h3
theorem escA_nil {a : Addr} : ¬ EscA σ ρ [] a := fun h => by obtain ⟨j, hj, _⟩ := h; cases hj
theorem Sok.step (s : Sok L K F0 H0 F H σ ρ) {F1 H1 : Hp} (e : Ext Nil F H F1 H1) : Sok L K F0 H0 F1 H1 σ ρ := by
  have e' : Ext (EscA σ ρ []) F H F1 H1 := e.nil
  refine ⟨s.st.ext e' s.inn, s.out e', fun i t p h hm hs => ?_, s.dis, s.lk⟩
  obtain ⟨f, h0⟩ := s.own i t p h hm hs
  refine ⟨?_, h0⟩
  cases q : F1 p with
  | none => rfl
  | some o =>
    rcases e.new p o q with z | z | z
    · rw [f] at z; cases z
    · obtain ⟨p', o', h1, h2⟩ := s.st.mine_at h hm
      rw [hs] at h1
      cases h1
      rw [z] at h2; cases h2
    · exact z.elim
end
end G7

namespace G7
open L2 PyProof.Rows PySem.Spec PySem
variable {nm : Nms} {G : Nat → Option D} {fe : Nat → List D → Res D} {xa : Str → Addr} {ec : Nat → Str} {L : Nat → Option Addr}
section
variable {X : Cx} {Wx : WX}
/-! ### what a loop walks: counted as data -/
def escJ : E → List Nat
  | .one (.var i) => [i]
  | it => escI it
theorem escJ_one (a : E) : escJ (.one a) = esc a := by cases a <;> rfl
def tJ (K : PySem.W.Frag) (G : Nat → Option D) (fe : Nat → List D → Res D) (W : Str → St → Hp → Prop) (it : E) : TI := fun σ H R => ∃ F ρ, Inn F H ∧ StOk K F H σ ρ ∧ After W (EscA σ ρ (escJ it)) F H σ (evalI G fe it ρ) (fun ds F' H' => ∀ J Gd, WalkD (isEn it) K J ds Gd → Gd F' F' → R J H')
theorem pj_seq {a : E} {tg x : Expr} (ha : PE X x (tE X.K G fe (wOf xa Wx) a)) : PI X tg x (tJ X.K G fe (wOf xa Wx) (.one a)) := by
  refine (((pi_list (tg := tg) ha).or (pi_tup ha)).or (pi_str ha)).weak fun σ H R q => ?_
  obtain ⟨F, ρ, inn, st, q⟩ := q
  rw [escJ_one] at q
  have q := After.bind (A1 := EscA σ ρ (esc a)) (A2 := EscA σ ρ (esc a)) (show After _ _ F H σ ((bor a ρ (evalE G fe a ρ)).bind fun x => .of (seqD x)) _ from q) (fun _ z => z) (fun _ z => z)
  have same : bor a ρ (evalE G fe a ρ) = evalE G fe a ρ ∨ ∃ kvs, bor a ρ (evalE G fe a ρ) = .ok (.dict kvs) := by
    cases a with
    | var i =>
      show view ρ i = evalE G fe (.var i) ρ ∨ ∃ kvs, view ρ i = .ok (.dict kvs)
      have e : evalE G fe (.var i) ρ = read ρ i := by unfold evalE; rfl
      rw [e]
      unfold view read
      cases h : ρ.at i with
      | none => exact .inl rfl
      | some s =>
        cases s with
        | dat d => exact .inl rfl
        | own d => exact .inl rfl
        | lck d =>
          obtain ⟨v, _, sl⟩ := st.ok i _ h
          cases d with
          | dict kvs => exact .inr ⟨kvs, rfl⟩
          | _ => exact sl.elim
    | _ => exact .inl rfl
  rcases same with same | ⟨kvs, same⟩
  · rw [same] at q
    cases hb : evalE G fe a ρ with
    | bad => rw [hb] at q; exact q.elim
    | exc c => exact .inl (.inl ⟨F, ρ, inn, st, by rw [hb] at q ⊢; exact q⟩)
    | ok d =>
      rw [hb] at q
      cases d with
      | list ds =>
        refine .inl (.inl ⟨F, ρ, inn, st, ?_⟩)
        rw [hb]
        intro F1 H1 e1 v r
        cases r with
        | @lst p vs _ hp rs =>
          refine ⟨p, rfl, ⟨vs, .inl (e1.inn.sub.rd hp)⟩, ?_⟩
          exact q F1 H1 e1 F1 H1 (Ext.refl e1.inn) _ _ (walk_lst X.K p vs ds fun _ _ _ _ => .inr trivial) ⟨.inl hp, rs⟩
      | tuple ds =>
        refine .inl (.inr ⟨F, ρ, inn, st, ?_⟩)
        rw [hb]
        intro F1 H1 e1 v r
        cases r with
        | @tup p vs _ hp rs =>
          refine ⟨p, rfl, ⟨vs, e1.inn.sub.sqT hp.sqT⟩, ?_⟩
          exact q F1 H1 e1 F1 H1 (Ext.refl e1.inn) _ _ (walk_tup X.K p vs ds) ⟨hp.sqT, rs⟩
      | str z =>
        refine .inr ⟨F, ρ, inn, st, ?_⟩
        rw [hb]
        intro F1 H1 e1 v r
        cases r with
        | str ho => exact ⟨z, rfl, q F1 H1 e1 F1 H1 (Ext.refl e1.inn) _ _ (walk_str X.K z ho) trivial⟩
      | _ => exact (q F H (Ext.refl inn)).elim
  · rw [same] at q
    exact (q F H (Ext.refl inn)).elim
theorem pj_en (g : Good nm G fe xa Wx X) {a : E} {y : Expr} {elts : List Expr} {kk : Nat} {tp p pos : Pos} (hg : globOk X.env.scope "enumerate" = true) (hy : plainR y = true) (ha : PE X y (tE X.K G fe (wOf xa Wx) a)) :
    PI X (.Tuple elts kk tp) (.Call (.Name "enumerate" p) [y] [] pos) (tJ X.K G fe (wOf xa Wx) (.enum a)) := by
  obtain ⟨h1, h2⟩ := glob_vis hg
  have sy : starEach [y] X.env = [(false, eval y X.env)] := star_one hy _ _
  have pa := pa_cons ha (pa_nil (X := X)) (star_one hy _ _)
  refine ((pi_enum (elts := elts) (kk := kk) (tpos := tp) h1 (bt_names (by simp [bltNames]) g) pa sy).or (pi_enumT h1 (bt_names (by simp [bltNames]) g) pa sy)).weak fun σ H R q => ?_
  obtain ⟨F, ρ, inn, st, q⟩ := q
  have q := After.bind (A1 := EscA σ ρ (esc a)) (A2 := EscA σ ρ (esc a)) (show After _ _ F H σ ((evalE G fe a ρ).bind _) _ from q) (fun _ z => z) (fun _ z => z)
  cases hb : evalE G fe a ρ with
  | bad => rw [hb] at q; exact q.elim
  | exc c => exact .inl ⟨F, ρ, inn, st, by rw [hb] at q ⊢; exact q⟩
  | ok d =>
    rw [hb] at q
    cases d with
    | list ds =>
      refine .inl ⟨F, ρ, inn, st, ?_⟩
      rw [hb]
      intro F1 H1 e1 v r
      cases r with
      | @lst p vs _ hp rs =>
        exact ⟨p, vs, rfl, .inl (e1.inn.sub.rd hp), q F1 H1 e1 F1 H1 (Ext.refl e1.inn) _ _ (walk_enumL X.K p vs ds) ⟨.inl hp, rs⟩⟩
    | tuple ds =>
      refine .inr ⟨F, ρ, inn, st, ?_⟩
      rw [hb]
      intro F1 H1 e1 v r
      cases r with
      | @tup p vs _ hp rs =>
        exact ⟨p, vs, rfl, e1.inn.sub.sqT hp.sqT, q F1 H1 e1 F1 H1 (Ext.refl e1.inn) _ _ (walk_enumT X.K p vs ds) ⟨hp.sqT, rs⟩⟩
    | _ => exact (q F H (Ext.refl inn)).elim
theorem pj_zp (g : Good nm G fe xa Wx X) {a b : E} {y z : Expr} {elts : List Expr} {kk : Nat} {tp p pos : Pos} (hg : globOk X.env.scope "zip" = true) (hy : plainR y = true) (hz : plainR z = true) (ha : PE X y (tE X.K G fe (wOf xa Wx) a)) (hb : PE X z (tE X.K G fe (wOf xa Wx) b)) :
    PI X (.Tuple elts kk tp) (.Call (.Name "zip" p) [y, z] [] pos) (tJ X.K G fe (wOf xa Wx) (.zip a b)) := by
  obtain ⟨h1, h2⟩ := glob_vis hg
  have sz := star_one hz [] X.env
  have sy := star_one hy [z] X.env
  refine (RZ.pi_zipA (elts := elts) (kk := kk) (tpos := tp) h1 (bt_names (by simp [bltNames]) g) (pa_cons ha (pa_cons hb (pa_nil (X := X)) sz) sy) sy (by rw [sz]; rfl)).weak fun σ H R q => ?_
  obtain ⟨F, ρ, inn, st, q⟩ := q
  refine ⟨F, ρ, inn, st, (After.bind (A1 := EscA σ ρ (esc a)) (A2 := EscA σ ρ (esc a ++ esc b)) (show After _ _ F H σ ((evalE G fe a ρ).bind _) _ from q) (fun _ => esc_l) (fun _ z => z)).map fun d F1 H1 e1 q1 v r => ?_⟩
  refine ⟨F1, ρ, e1.inn, st.ext e1 inn, (After.bind (A1 := EscA σ ρ (esc b)) (A2 := EscA σ ρ (esc a ++ esc b)) (show After _ _ F1 H1 σ ((evalE G fe b ρ).bind _) _ from q1) (fun _ => esc_r) (fun _ z => z)).map fun d2 F2 H2 e2 q2 v2 r2 => ?_⟩
  cases d with
  | tuple ds =>
    cases d2 with
    | tuple es =>
      cases r with
      | @tup p1 vs _ hp1 rs1 =>
        cases r2 with
        | @tup p2 us _ hp2 rs2 =>
          have k1 : SqT X.K F2 p1 vs := (e2.sub.tupP hp1).sqT
          have k2 : SqT X.K F2 p2 us := hp2.sqT
          exact ⟨p1, p2, vs, us, rfl, .inr ⟨e2.inn.sub.sqT k1, e2.inn.sub.sqT k2, q2 F2 H2 (Ext.refl e2.inn) _ _ (walk_zipP X.K p1 p2 vs us ds es) ⟨⟨k1, rs1.mono e2.sub⟩, k2, rs2⟩⟩⟩
    | _ => exact q2.elim
  | _ => cases d2 <;> exact q2.elim
theorem pj_rg1 (g : Good nm G fe xa Wx X) {a : E} {tg y : Expr} {p pos : Pos} (hg : globOk X.env.scope "range" = true) (hy : plainR y = true) (ha : PE X y (tE X.K G fe (wOf xa Wx) a)) :
    PI X tg (.Call (.Name "range" p) [y] [] pos) (tJ X.K G fe (wOf xa Wx) (.rng1 a)) := by
  obtain ⟨h1, h2⟩ := glob_vis hg
  refine (pi_range1 (tg := tg) h1 (bt_names (by simp [bltNames]) g) (pa_cons ha pa_nil (star_one hy _ _)) (star_one hy _ _)).weak fun σ H R q => ?_
  obtain ⟨F, ρ, inn, st, q⟩ := q
  refine ⟨F, ρ, inn, st, (After.bind (A1 := EscA σ ρ (esc a)) (A2 := EscA σ ρ (esc a)) (show After _ _ F H σ ((evalE G fe a ρ).bind _) _ from q) (fun _ z => z) (fun _ z => z)).map fun d F1 H1 e1 q1 v r => ?_⟩
  cases d with
  | int j =>
    cases r
    have q1 : After (wOf xa Wx) _ F1 H1 σ (if rngOk 0 j = true then .ok (rngD 0 j.toNat) else .bad) _ := q1
    split at q1
    · rename_i hr
      obtain ⟨a1, a2, a3, a4, a5⟩ := rng_bounds hr
      exact ⟨j, rfl, by omega, by omega, q1 F1 H1 (Ext.refl e1.inn) _ _ (walk_rng X.K 0 j.toNat) trivial⟩
    · exact q1.elim
  | _ => exact q1.elim
theorem pj_rg2 (g : Good nm G fe xa Wx X) {a b : E} {tg y z : Expr} {p pos : Pos} (hg : globOk X.env.scope "range" = true) (hy : plainR y = true) (hz : plainR z = true) (ha : PE X y (tE X.K G fe (wOf xa Wx) a)) (hb : PE X z (tE X.K G fe (wOf xa Wx) b)) :
    PI X tg (.Call (.Name "range" p) [y, z] [] pos) (tJ X.K G fe (wOf xa Wx) (.rng2 a b)) := by
  obtain ⟨h1, h2⟩ := glob_vis hg
  have sz := star_one hz [] X.env
  refine (pi_range2 (tg := tg) h1 (bt_names (by simp [bltNames]) g) (pa_cons ha (pa_cons hb pa_nil sz) (star_one hy _ _)) (by rw [star_one hy, sz]; rfl) sz).weak fun σ H R q => ?_
  obtain ⟨F, ρ, inn, st, q⟩ := q
  refine ⟨F, ρ, inn, st, (After.bind (A1 := EscA σ ρ (esc a)) (A2 := EscA σ ρ (esc a ++ esc b)) (show After _ _ F H σ ((evalE G fe a ρ).bind _) _ from q) (fun _ => esc_l) (fun _ z => z)).map fun d F1 H1 e1 q1 v r => ?_⟩
  refine ⟨F1, ρ, e1.inn, st.ext e1 inn, (After.bind (A1 := EscA σ ρ (esc b)) (A2 := EscA σ ρ (esc a ++ esc b)) (show After _ _ F1 H1 σ ((evalE G fe b ρ).bind _) _ from q1) (fun _ => esc_r) (fun _ z => z)).map fun d2 F2 H2 e2 q2 v2 r2 => ?_⟩
  cases d with
  | int i =>
    cases d2 with
    | int j =>
      cases r; cases r2
      have q2 : After (wOf xa Wx) _ F2 H2 σ (if rngOk i j = true then .ok (rngD i (j - i).toNat) else .bad) _ := q2
      split at q2
      · rename_i hr
        obtain ⟨a1, a2, a3, a4, a5⟩ := rng_bounds hr
        exact ⟨i, j, rfl, ⟨by omega, by omega, by omega, by omega⟩, q2 F2 H2 (Ext.refl e2.inn) _ _ (walk_rng X.K i (j - i).toNat) trivial⟩
      · exact q2.elim
    | _ => exact q2.elim
  | _ => cases d2 <;> exact q2.elim
/-- any of them -/
theorem soundJ (g : Good nm G fe xa Wx X) (it : E) (hn : ∀ i, it ≠ .itd i) (tg x : Expr) (h : chkI nm X.N X.env.scope tg it x = true) : PI X tg x (tJ X.K G fe (wOf xa Wx) it) := by
  cases it with
  | one a =>
    unfold chkI at h
    simp only [Bool.and_eq_true] at h
    exact pj_seq ((sound a).ee g x h.2)
  | rng1 a =>
    cases x with
    | Call f args kws pos =>
      cases f with
      | Name n p =>
        rcases args with _ | ⟨y, _ | ⟨_, _⟩⟩
        · unfold chkI at h; cases h
        · cases kws with
          | nil =>
            unfold chkI at h
            simp only [Bool.and_eq_true, decide_eq_true_eq] at h
            obtain ⟨⟨⟨e, h1⟩, h2⟩, h3⟩ := h
            subst e
            exact pj_rg1 g h1 h2 ((sound a).ee g y h3)
          | cons _ _ => unfold chkI at h; cases h
        · unfold chkI at h; cases h
      | _ => unfold chkI at h; cases h
    | _ => unfold chkI at h; cases h
  | rng2 a b =>
    cases x with
    | Call f args kws pos =>
      cases f with
      | Name n p =>
        rcases args with _ | ⟨y, _ | ⟨z, _ | ⟨_, _⟩⟩⟩
        · unfold chkI at h; cases h
        · unfold chkI at h; cases h
        · cases kws with
          | nil =>
            unfold chkI at h
            simp only [Bool.and_eq_true, decide_eq_true_eq] at h
            obtain ⟨⟨⟨⟨⟨e, h1⟩, h2⟩, h3⟩, h4⟩, h5⟩ := h
            subst e
            exact pj_rg2 g h1 h2 h3 ((sound a).ee g y h4) ((sound b).ee g z h5)
          | cons _ _ => unfold chkI at h; cases h
        · unfold chkI at h; cases h
      | _ => unfold chkI at h; cases h
    | _ => unfold chkI at h; cases h
  | enum a =>
    cases x with
    | Call f args kws pos =>
      cases f with
      | Name n p =>
        rcases args with _ | ⟨y, _ | ⟨_, _⟩⟩
        · unfold chkI at h; cases h
        · cases kws with
          | nil =>
            unfold chkI at h
            simp only [Bool.and_eq_true, decide_eq_true_eq] at h
            obtain ⟨⟨⟨⟨e, h1⟩, h2⟩, h3⟩, h4⟩ := h
            subst e
            cases tg with
            | Tuple elts kk tp => exact pj_en g h1 h2 ((sound a).ee g y h3)
            | _ => cases h4
          | cons _ _ => unfold chkI at h; cases h
        · unfold chkI at h; cases h
      | _ => unfold chkI at h; cases h
    | _ => unfold chkI at h; cases h
  | zip a b =>
    cases x with
    | Call f args kws pos =>
      cases f with
      | Name n p =>
        rcases args with _ | ⟨y, _ | ⟨z, _ | ⟨_, _⟩⟩⟩
        · unfold chkI at h; cases h
        · unfold chkI at h; cases h
        · cases kws with
          | nil =>
            unfold chkI at h
            simp only [Bool.and_eq_true, decide_eq_true_eq] at h
            obtain ⟨⟨⟨⟨⟨⟨e, h1⟩, h2⟩, h3⟩, h4⟩, h5⟩, h6⟩ := h
            subst e
            cases tg with
            | Tuple elts kk tp => exact pj_zp g h1 h2 h3 ((sound a).ee g y h4) ((sound b).ee g z h5)
            | _ => cases h6
          | cons _ _ => unfold chkI at h; cases h
        · unfold chkI at h; cases h
      | _ => unfold chkI at h; cases h
    | _ => unfold chkI at h; cases h
  | itd i => exact (hn i rfl).elim
  | _ => unfold chkI at h; cases h
end
end G7

namespace G7
open L2 PyProof.Rows PySem.Spec PySem
variable {nm : Nms} {G : Nat → Option D} {fe : Nat → List D → Res D} {xa : Str → Addr} {ec : Nat → Str} {L : Nat → Option Addr}
section
variable {X : Cx} {Wx : WX}
theorem bindT_nox : ∀ (t : Tg), (∀ d ρ c, bindT t d ρ ≠ .exc c) ∧ (∀ ds ρ c, bindT.bindTs t ds ρ ≠ .exc c) := by
  intro t
  induction t with
  | nm i => exact ⟨fun d ρ c h => (by cases h), fun ds ρ c h => (by cases ds <;> cases h)⟩
  | tp ts ih => exact ⟨fun d ρ c h => (by cases d <;> first | exact ih.2 _ _ _ h | cases h), fun ds ρ c h => (by cases ds <;> cases h)⟩
  | nil => exact ⟨fun d ρ c h => (by cases d <;> cases h), fun ds ρ c h => (by cases ds <;> cases h)⟩
  | cons t ts ih1 ih2 =>
    refine ⟨fun d ρ c h => (by cases d <;> cases h), fun ds ρ c h => ?_⟩
    cases ds with
    | nil => cases h
    | cons d ds =>
      have h : (bindT t d ρ).bind (bindT.bindTs ts ds) = .exc c := h
      cases hb : bindT t d ρ with
      | ok ρ1 => rw [hb] at h; exact ih2.2 _ _ _ h
      | exc c' => exact ih1.1 _ _ _ hb
      | bad => rw [hb] at h; cases h
/-- name = value -/
theorem r_set {e : E} {st : Stmt} {i : Nat} (h : PS X st (tAsg (tX X.K G fe (wOf xa Wx) e) (gName i))) : PS X st (tS X.K G fe (wOf xa Wx) ec (.asg (.nm i) e)) := by
  refine h.weak fun D σ H q => ?_
  obtain ⟨L, F0, H0, F, ρ, s, q⟩ := q
  refine ev_step s (show Aft L _ _ F0 H0 D ((evalE G fe e ρ).bind _) from q) fun d q2 F2 H1 v s2 rx hn => ?_
  show D.nx (σ.set i (some v)) H1
  by_cases hf : (fresh e && isCont d) = true
  · rw [if_pos hf] at q2
    simp only [Bool.and_eq_true] at hf
    rw [hf.1] at rx
    cases d with
    | list ds =>
      obtain ⟨p, vs, rfl, h0, h1, h2, r⟩ := rx
      obtain ⟨n1, n2⟩ := hn p h0
      exact q2 _ F2 H1 (s2.putOwn i ⟨p, vs, rfl, h2, r, .inl h1⟩ h1 n1 n2)
    | dict ds =>
      obtain ⟨p, vs, rfl, h0, h1, h2, r⟩ := rx
      obtain ⟨n1, n2⟩ := hn p h0
      exact q2 _ F2 H1 (s2.putOwn i ⟨p, vs, rfl, h2, r, .inl h1⟩ h1 n1 n2)
    | _ => cases hf.2
  · rw [if_neg hf] at q2
    have r : Rep X.K F2 v d := by
      cases hfe : fresh e with
      | false => rw [hfe] at rx; cases d <;> exact rx
      | true =>
        rw [hfe] at rx hf
        cases d with
        | list ds => exact (hf rfl).elim
        | dict ds => exact (hf rfl).elim
        | _ => exact rx
    exact q2 _ F2 H1 (s2.put i r)
/-- targets = value -/
theorem r_asg {e : E} {st : Stmt} {t : Tg} (hb : ∀ i, t ≠ .nm i) (h : PS X st (tAsg (tE X.K G fe (wOf xa Wx) e) (tG X.K t))) : PS X st (tS X.K G fe (wOf xa Wx) ec (.asg t e)) := by
  refine h.weak fun D σ H q => ?_
  obtain ⟨L, F0, H0, F, ρ, s, q⟩ := q
  have e1 : exec G fe ec (.asg t e) ρ = (evalE G fe e ρ).bind fun d => (bindT t d (frzE ρ (esc e))).bind fun ρ1 => .ok (.next ρ1) := by
    cases t <;> first | rfl | exact absurd rfl (hb _)
  rw [e1] at q
  refine ev_stepE s q fun d q2 F2 H1 v _ s2 r => ?_
  cases hbt : bindT t d (frzE ρ (esc e)) with
  | bad => rw [hbt] at q2; exact q2.elim
  | exc c =>
    exfalso
    exact (bindT_nox t).1 _ _ _ hbt
  | ok ρ1 =>
    rw [hbt] at q2
    exact ⟨F2, frzE ρ (esc e), d, s2.inn, s2.st, r.g t, ρ1, hbt, fun σ' st' _ ho => q2 σ' F2 H1 (s2.bind hbt st' ho)⟩
theorem r_ret {e : E} {x : Expr} {pos : Pos} (h : PE X x (tX X.K G fe (wOf xa Wx) e)) : PS X (.Return (some x) pos) (tS X.K G fe (wOf xa Wx) ec (.ret e)) := by
  refine (ps_ret h).weak fun D σ H q => ?_
  obtain ⟨L, F0, H0, F, ρ, s, q⟩ := q
  refine ⟨F, ρ, s.inn, s.st, ?_⟩
  have q : Aft L _ _ F0 H0 D ((evalE G fe e ρ).bind fun d => .ok (.ret d)) := q
  cases he : evalE G fe e ρ with
  | bad => rw [he] at q; exact q
  | exc c => rw [he] at q; exact fun F' H' e1 => q σ F' H' (s.out e1)
  | ok d =>
    rw [he] at q
    intro F1 H1 e1 v rx
    obtain ⟨F3, e3, _, r⟩ := rx.froz e1
    exact q v F3 H1 (s.out e3) r
theorem r_retN {pos : Pos} : PS X (.Return none pos) (tS X.K G fe (wOf xa Wx) ec .retN) := by
  refine ps_retN.weak fun D σ H q => ?_
  obtain ⟨L, F0, H0, F, ρ, s, q⟩ := q
  exact q .non F H s.ext .non
theorem r_pass {pos : Pos} : PS X (.Pass pos) (tS X.K G fe (wOf xa Wx) ec .pass) := by
  refine ps_pass.weak fun D σ H q => ?_
  obtain ⟨L, F0, H0, F, ρ, s, q⟩ := q
  exact q σ F H s
theorem r_cont {pos : Pos} : PS X (.Continue pos) (tS X.K G fe (wOf xa Wx) ec .cont) := by
  refine ps_continue.weak fun D σ H q => ?_
  obtain ⟨L, F0, H0, F, ρ, s, q⟩ := q
  exact q σ F H s
theorem r_brk {pos : Pos} : PS X (.Break pos) (tS X.K G fe (wOf xa Wx) ec .brk) := by
  refine ps_break.weak fun D σ H q => ?_
  obtain ⟨L, F0, H0, F, ρ, s, q⟩ := q
  exact q σ F H s
theorem r_never {st : Stmt} : PS X st (tS X.K G fe (wOf xa Wx) ec .never) := by
  refine ps_never.weak fun D σ H q => ?_
  obtain ⟨L, F0, H0, F, ρ, s, q⟩ := q
  exact q
theorem r_if {c : E} {a b : S} {x : Expr} {p q : List Stmt} {pos : Pos} (hc : PT X x (tT X.K G fe (wOf xa Wx) c)) (ha : PSs X p (tS X.K G fe (wOf xa Wx) ec a)) (hb : PSs X q (tS X.K G fe (wOf xa Wx) ec b)) : PS X (.If x p q pos) (tS X.K G fe (wOf xa Wx) ec (.ifs c a b)) := by
  refine (ps_if hc ha hb).weak fun D σ H q => ?_
  obtain ⟨L, F0, H0, F, ρ, s, q⟩ := q
  refine ev_stepT s (show Aft L _ _ F0 H0 D ((evalE G fe c ρ).bind _) from q) fun d q2 F2 H1 s2 => ?_
  cases ht : truth d with
  | true => rw [ht, if_pos rfl] at q2; rw [if_pos rfl]; exact ⟨L, F0, H0, F2, _, s2, q2⟩
  | false => rw [ht, if_neg Bool.false_ne_true] at q2; rw [if_neg Bool.false_ne_true]; exact ⟨L, F0, H0, F2, _, s2, q2⟩
theorem r_nil : PSs X [] (tS X.K G fe (wOf xa Wx) ec .nil) := by
  refine pss_nil.weak fun D σ H q => ?_
  obtain ⟨L, F0, H0, F, ρ, s, q⟩ := q
  exact q σ F H s
theorem r_cons {a b : S} {st : Stmt} {r : List Stmt} (ha : PS X st (tS X.K G fe (wOf xa Wx) ec a)) (hb : PSs X r (tS X.K G fe (wOf xa Wx) ec b)) : PSs X (st :: r) (tS X.K G fe (wOf xa Wx) ec (.cons a b)) := by
  refine (pss_cons ha hb).weak fun D σ H q => ?_
  obtain ⟨L, F0, H0, F, ρ, s, q⟩ := q
  refine ⟨L, F0, H0, F, ρ, s, ?_⟩
  have q : Aft L X.K (wOf xa Wx) F0 H0 D ((exec G fe ec a ρ).bind fun fl => match fl with
    | .next ρ1 => exec G fe ec b ρ1
    | fl => .ok fl) := q
  cases he : exec G fe ec a ρ with
  | bad => rw [he] at q; exact q
  | exc c => rw [he] at q; exact q
  | ok fl =>
    rw [he] at q
    cases fl with
    | next ρ1 => exact fun σ' F' H' s' => ⟨L, F0, H0, F', ρ1, s', q⟩
    | ret d => exact q
    | cont ρ1 => exact q
    | brk ρ1 => exact q
theorem ext_self {F F' : Hp} (s : Sub F F') (p : Plain F') : Ext Nil F F F' F' :=
  ⟨s, Keeps.of s, fun a o _ => by
    cases q : F a with
    | none => exact .inr (.inl rfl)
    | some u => exact .inl (by rw [← s a u q]; assumption), ⟨Sub.refl _, p⟩⟩
theorem ext_up {F H : Hp} (i : Inn F H) : Ext Nil F F F H := ⟨Sub.refl _, Keeps.of i.sub, fun _ _ q => .inl q, i⟩
theorem r_for (g : Good nm G fe xa Wx X) {t : Tg} {it : E} {body : S} {tg iter : Expr} {bd : List Stmt} {pos : Pos} (hi : PI X tg iter (tJ X.K G fe (wOf xa Wx) it)) (hg : PG X tg (tG X.K t)) (hb : PSs X bd (tS X.K G fe (wOf xa Wx) ec body)) (hp : plainR iter = true) (htp : isEn it = true → isTp t = true) :
    PS X (.For tg iter bd [] pos) (tS X.K G fe (wOf xa Wx) ec (.for_ t it body)) := by
  refine (ps_for g.own g.calm hi hg hb fun v => plain_iter hp _ v).weak fun D σ H q => ?_
  obtain ⟨L, F0, H0, F, ρ, s, q⟩ := q
  have e1 : exec G fe ec (.for_ t it body) ρ = (evalI G fe it ρ).bind fun xs => forLoop (fun ρ => exec G fe ec body ρ) t xs (frzE ρ (escJ it)) := by
    cases it with
    | one a => cases a <;> rfl
    | _ => rfl
  rw [e1] at q
  refine ⟨F, ρ, s.inn, s.st, ?_⟩
  cases he : evalI G fe it ρ with
  | bad => rw [he] at q; exact q
  | exc c => rw [he] at q; exact fun F' H' e1 => q σ F' H' (s.out e1)
  | ok xs =>
    rw [he] at q
    have q : Aft L X.K (wOf xa Wx) F0 H0 D (forLoop (fun ρ => exec G fe ec body ρ) t xs (frzE ρ (escJ it))) := q
    intro F1 H1 e1 J Gd wk gd
    obtain ⟨F2, s2, sb, _, e2⟩ := s.frz e1
    have q2 := q.rebase s2.ext
    have gd2 : Gd F2 F2 := wk.mono (ext_self sb s2.inn.plain) gd
    generalize hf : (fun ρ => exec G fe ec body ρ) = f at q2
    refine ⟨fun i m σ' H' => m = xs.length - i ∧ i ≤ xs.length ∧ ∃ F' ρ', Sok L X.K F2 H0 F' H' σ' ρ' ∧ Aft L X.K (wOf xa Wx) F2 H0 D (forLoop f t (xs.drop i) ρ'), ⟨xs.length, rfl, Nat.zero_le _, F2, _, s2.based, q2⟩, ?_⟩
    rintro i m σ3 H3 ⟨rfl, hi, F3, ρ3, s3, q3⟩
    have gd3 : Gd F3 H3 := wk.mono (ext_up s3.inn) (wk.mono (ext_self s3.ext.sub s3.inn.plain) gd2)
    by_cases hlt : i < xs.length
    · right
      obtain ⟨hgo, hyld⟩ := wk.go s3.inn gd3 (show xs[i]? = some xs[i] by simp [hlt])
      refine ⟨hgo, fun σ' H' => i + 1 ≤ xs.length ∧ ∃ F' ρ', Sok L X.K F2 H0 F' H' σ' ρ' ∧ Aft L X.K (wOf xa Wx) F2 H0 D (forLoop f t (xs.drop (i + 1)) ρ'), fun σ' H' z => ⟨xs.length - (i + 1), by omega, rfl, z⟩, fun x H' y => ?_⟩
      obtain ⟨F4, e4, rx⟩ := hyld x H' y
      have s4 := s3.step e4
      rw [List.drop_eq_getElem_cons hlt] at q3
      have q3 : Aft L X.K (wOf xa Wx) F2 H0 D ((bindT t xs[i] ρ3).bind fun ρ1 => (f ρ1).bind fun fl => match fl with
        | .next ρ2 => forLoop f t (xs.drop (i + 1)) ρ2
        | .cont ρ2 => forLoop f t (xs.drop (i + 1)) ρ2
        | .brk ρ2 => .ok (.next ρ2)
        | .ret d => .ok (.ret d)) := q3
      cases hbt : bindT t xs[i] ρ3 with
      | bad => rw [hbt] at q3; exact q3.elim
      | exc c =>
        rw [hbt] at q3
        exfalso
        exact (bindT_nox t).1 _ _ _ hbt
      | ok ρ1 =>
        rw [hbt] at q3
        have q3 : Aft L X.K (wOf xa Wx) F2 H0 D ((f ρ1).bind fun fl => match fl with
          | .next ρ2 => forLoop f t (xs.drop (i + 1)) ρ2
          | .cont ρ2 => forLoop f t (xs.drop (i + 1)) ρ2
          | .brk ρ2 => .ok (.next ρ2)
          | .ret d => .ok (.ret d)) := q3
        refine ⟨F4, ρ3, xs[i], s4.inn, s4.st, rx.g htp, ρ1, hbt, fun σ2 st2 _ ho => ⟨L, F2, H0, F4, ρ1, s4.bind hbt st2 ho, ?_⟩⟩
        have ef : exec G fe ec body ρ1 = f ρ1 := by rw [← hf]
        rw [ef]
        cases hfl : f ρ1 with
        | bad => rw [hfl] at q3; exact q3
        | exc c => rw [hfl] at q3; exact q3
        | ok fl =>
          rw [hfl] at q3
          cases fl with
          | next ρ2 => exact fun σ' F' H' s' => ⟨hlt, F', ρ2, s', q3⟩
          | cont ρ2 => exact fun σ' F' H' s' => ⟨hlt, F', ρ2, s', q3⟩
          | brk ρ2 => exact q3
          | ret d => exact q3
    · left
      have ei : i = xs.length := by omega
      subst ei
      refine ⟨wk.stop s3.inn gd3 (Nat.le_refl _), ?_⟩
      rw [List.drop_length] at q3
      exact q3 σ3 F3 H3 s3
theorem r_ford (g : Good nm G fe xa Wx X) {t : Tg} {di : Nat} {body : S} {tg : Expr} {x : Str} {xp : Pos} {bd : List Stmt} {pos : Pos} (hx : slotOk X.N X.env.scope di x = true) (hg : PG X tg (tG X.K t)) (hb : PSs X bd (tS X.K G fe (wOf xa Wx) ec body)) :
    PS X (.For tg (.Name x xp) bd [] pos) (tS X.K G fe (wOf xa Wx) ec (.for_ t (.itd di) body)) := by
  obtain ⟨x1, x2, x3, x4⟩ := slot_vis hx
  refine (ps_for g.own g.calm (pi_keys (tg := tg) (pe_var x1 x2 x3 x4)) hg hb fun v => plain_iter rfl _ v).weak fun D σ H q => ?_
  obtain ⟨L, F0, H0, F, ρ, s, q⟩ := q
  have e1 : exec G fe ec (.for_ t (.itd di) body) ρ = ((lckK ρ di).bind fun kvs => .ok (kvs.map (·.1))).bind fun xs => forLoop (fun ρ => exec G fe ec body ρ) t xs ρ := rfl
  rw [e1] at q
  cases hk : lckK ρ di with
  | bad => rw [hk] at q; exact q.elim
  | exc c => exact (lckK_nox hk).elim
  | ok kvs =>
    rw [hk] at q
    obtain ⟨hat, p, vs, o, hs, hp, rk, hF⟩ := lckK_ok s.st hk
    obtain ⟨p', o', vs', _, hs', h0p⟩ := s.lk di _ hat
    rw [hs] at hs'
    cases hs'
    have h0p' := s.ext.same.keep p _ h0p rfl
    rw [hp] at h0p'
    cases h0p'
    refine ⟨.ref p, hs, p, o, rfl, .inl ⟨vs, hp, ?_⟩⟩
    have q : Aft L X.K (wOf xa Wx) F0 H0 D (forLoop (fun ρ => exec G fe ec body ρ) t (kvs.map (·.1)) ρ) := q
    generalize hxs : kvs.map (·.1) = xs at q
    have wk := walk_keys X.K p o vs kvs
    rw [hxs] at wk
    have q2 := q.rebase s.ext
    have s2 := s
    have htp : isEn (.itd di) = true → isTp t = true := fun z => by cases z
    generalize hf : (fun ρ => exec G fe ec body ρ) = f at q2
    refine ⟨fun i m σ' H' => m = xs.length - i ∧ i ≤ xs.length ∧ ∃ F' ρ', Sok L X.K F H0 F' H' σ' ρ' ∧ Aft L X.K (wOf xa Wx) F H0 D (forLoop f t (xs.drop i) ρ'), ⟨xs.length, rfl, Nat.zero_le _, F, _, s2.based, q2⟩, ?_⟩
    rintro i m σ3 H3 ⟨rfl, hi, F3, ρ3, s3, q3⟩
    have gd3 : H3 p = some (.frz o (.dK vs)) ∧ RepK X.K F3 vs kvs := ⟨s3.ext.same.keep p _ h0p rfl, rk.mono s3.ext.sub⟩
    by_cases hlt : i < xs.length
    · right
      obtain ⟨hgo, hyld⟩ := wk.go s3.inn gd3 (show xs[i]? = some xs[i] by simp [hlt])
      refine ⟨hgo, fun σ' H' => i + 1 ≤ xs.length ∧ ∃ F' ρ', Sok L X.K F H0 F' H' σ' ρ' ∧ Aft L X.K (wOf xa Wx) F H0 D (forLoop f t (xs.drop (i + 1)) ρ'), fun σ' H' z => ⟨xs.length - (i + 1), by omega, rfl, z⟩, fun x H' y => ?_⟩
      obtain ⟨F4, e4, rx⟩ := hyld x H' y
      have s4 := s3.step e4
      rw [List.drop_eq_getElem_cons hlt] at q3
      have q3 : Aft L X.K (wOf xa Wx) F H0 D ((bindT t xs[i] ρ3).bind fun ρ1 => (f ρ1).bind fun fl => match fl with
        | .next ρ2 => forLoop f t (xs.drop (i + 1)) ρ2
        | .cont ρ2 => forLoop f t (xs.drop (i + 1)) ρ2
        | .brk ρ2 => .ok (.next ρ2)
        | .ret d => .ok (.ret d)) := q3
      cases hbt : bindT t xs[i] ρ3 with
      | bad => rw [hbt] at q3; exact q3.elim
      | exc c =>
        rw [hbt] at q3
        exfalso
        exact (bindT_nox t).1 _ _ _ hbt
      | ok ρ1 =>
        rw [hbt] at q3
        have q3 : Aft L X.K (wOf xa Wx) F H0 D ((f ρ1).bind fun fl => match fl with
          | .next ρ2 => forLoop f t (xs.drop (i + 1)) ρ2
          | .cont ρ2 => forLoop f t (xs.drop (i + 1)) ρ2
          | .brk ρ2 => .ok (.next ρ2)
          | .ret d => .ok (.ret d)) := q3
        refine ⟨F4, ρ3, xs[i], s4.inn, s4.st, rx.g htp, ρ1, hbt, fun σ2 st2 _ ho => ⟨L, F, H0, F4, ρ1, s4.bind hbt st2 ho, ?_⟩⟩
        have ef : exec G fe ec body ρ1 = f ρ1 := by rw [← hf]
        rw [ef]
        cases hfl : f ρ1 with
        | bad => rw [hfl] at q3; exact q3
        | exc c => rw [hfl] at q3; exact q3
        | ok fl =>
          rw [hfl] at q3
          cases fl with
          | next ρ2 => exact fun σ' F' H' s' => ⟨hlt, F', ρ2, s', q3⟩
          | cont ρ2 => exact fun σ' F' H' s' => ⟨hlt, F', ρ2, s', q3⟩
          | brk ρ2 => exact q3
          | ret d => exact q3
    · left
      have ei : i = xs.length := by omega
      subst ei
      refine ⟨wk.stop s3.inn gd3 (Nat.le_refl _), ?_⟩
      rw [List.drop_length] at q3
      exact q3 σ3 F3 H3 s3
theorem r_whl (g : Good nm G fe xa Wx X) {c : E} {body : S} {x : Expr} {bd : List Stmt} {pos : Pos} (hc : PT X x (tT X.K G fe (wOf xa Wx) c)) (hb : PSs X bd (tS X.K G fe (wOf xa Wx) ec body)) : PS X (.While x bd [] pos) (tS X.K G fe (wOf xa Wx) ec (.whl c body)) := by
  refine (ps_while g.own hc hb).weak fun D σ H q => ?_
  obtain ⟨L, F0, H0, F, ρ, s, q⟩ := q
  have q : Aft L X.K (wOf xa Wx) F0 H0 D (whlLoop (fun ρ => (evalE G fe c ρ).bind fun d => .ok (truth d, frzE ρ (escB c))) (fun ρ => exec G fe ec body ρ) WF ρ) := q
  generalize hcf : (fun ρ => (evalE G fe c ρ).bind fun d => Res.ok (truth d, frzE ρ (escB c))) = cf at q
  generalize hf : (fun ρ => exec G fe ec body ρ) = f at q
  refine ⟨fun m σ' H' => ∃ F' ρ', Sok L X.K F0 H0 F' H' σ' ρ' ∧ Aft L X.K (wOf xa Wx) F0 H0 D (whlLoop cf f m ρ'), ⟨WF, F, ρ, s, q⟩, ?_⟩
  rintro m σ1 H1 ⟨F1, ρ1, s1, q1⟩
  cases m with
  | zero => exact q1.elim
  | succ n =>
    have q1 : Aft L X.K (wOf xa Wx) F0 H0 D ((cf ρ1).bind fun k => if k.1 then (f k.2).bind fun fl => (match fl with
      | .next ρ2 => whlLoop cf f n ρ2
      | .cont ρ2 => whlLoop cf f n ρ2
      | .brk ρ2 => .ok (.next ρ2)
      | .ret d => .ok (.ret d)) else .ok (.next k.2)) := q1
    have ecf : cf ρ1 = (evalE G fe c ρ1).bind fun d => Res.ok (truth d, frzE ρ1 (escB c)) := by rw [← hcf]
    rw [ecf] at q1
    have q1 : Aft L X.K (wOf xa Wx) F0 H0 D ((evalE G fe c ρ1).bind fun d => if truth d then (f (frzE ρ1 (escB c))).bind fun fl => (match fl with
      | .next ρ2 => whlLoop cf f n ρ2
      | .cont ρ2 => whlLoop cf f n ρ2
      | .brk ρ2 => .ok (.next ρ2)
      | .ret d => .ok (.ret d)) else .ok (.next (frzE ρ1 (escB c)))) := by
      cases h : evalE G fe c ρ1 with
      | bad => rw [h] at q1; exact q1
      | exc e => rw [h] at q1; exact q1
      | ok d => rw [h] at q1; exact q1
    refine ev_stepT s1 q1 fun d q2 F2 H2 s2 => ?_
    cases ht : truth d with
    | false =>
      rw [ht, if_neg Bool.false_ne_true] at q2
      rw [if_neg Bool.false_ne_true]
      exact q2 σ1 F2 H2 s2
    | true =>
      rw [ht, if_pos rfl] at q2
      rw [if_pos rfl]
      refine ⟨fun σ' H' => ∃ F' ρ', Sok L X.K F0 H0 F' H' σ' ρ' ∧ Aft L X.K (wOf xa Wx) F0 H0 D (whlLoop cf f n ρ'), fun σ' H' z => ⟨n, by omega, z⟩, L, F0, H0, F2, _, s2, ?_⟩
      have ef : exec G fe ec body (frzE ρ1 (escB c)) = f (frzE ρ1 (escB c)) := by rw [← hf]
      rw [ef]
      cases hfl : f (frzE ρ1 (escB c)) with
      | bad => rw [hfl] at q2; exact q2
      | exc c => rw [hfl] at q2; exact q2
      | ok fl =>
        rw [hfl] at q2
        cases fl with
        | next ρ2 => exact fun σ' F' H' s' => ⟨F', ρ2, s', q2⟩
        | cont ρ2 => exact fun σ' F' H' s' => ⟨F', ρ2, s', q2⟩
        | brk ρ2 => exact q2
        | ret d => exact q2
end
end G7

namespace G7
open L2 PyProof.Rows PySem.Spec PySem
variable {nm : Nms} {G : Nat → Option D} {fe : Nat → List D → Res D} {xa : Str → Addr} {ec : Nat → Str} {L : Nat → Option Addr}
section
variable {X : Cx} {Wx : WX}
/-- list.extend(list), list.extend(tuple) -/
def rExt (K : PySem.W.Frag) : V → List V → Hp → VK → Prop := fun x vs H Q => ∃ l b xs zs, x = .ref l ∧ vs = [.ref b] ∧ H l = some (.lst xs) ∧ Rd H b (.lst zs) ∧ xs.length + zs.length ≤ sizeLine ∧ Q .non (upd H l (.lst (xs ++ zs)))
theorem mt_ext : MtR X "list.extend" (rExt X.K) := by
  intro pins s σ H x vs v us Q I rx rv h
  obtain ⟨l, b, xs, zs, rfl, rfl, hH, hB, hz, q⟩ := h
  cases rx
  obtain ⟨u, rfl, ru⟩ := rv.one
  cases ru
  obtain ⟨z, its, n, r, hl, e⟩ := I.lstM hH
  obtain ⟨z2, its2, n2, r2, e2⟩ := hB.ok I.hok
  have hl2 := r2.length
  have hsz : its.toArray.size + its2.toArray.size ≤ sizeLine := by rw [List.size_toArray, List.size_toArray]; omega
  have hlong : ¬ (!its.toArray.isEmpty && Builtin.List.listTooLong (its.toArray.size + its2.toArray.size)) = true := by
    rw [notLongL hsz, Bool.and_false]
    exact Bool.false_ne_true
  refine call_meets F.slot_list_extend ⟨_, e, rfl⟩ F.entry_list_extend (F.args_list_extend_2 _ _)
    (AutoSeq1.list_extend_list_list_0 l its.toArray n b its2.toArray n2 hlong (by rw [List.size_toArray]; omega) (by omega)) ⟨e, e2, ?_⟩
  refine ⟨.non, _, I.lset (its' := its ++ its2) hH e (by simp) (r.append r2) ?_, rfl, q⟩
  rw [List.length_append]
  omega
theorem ownL_ok {K : PySem.W.Frag} {W : Str → St → Hp → Prop} {F0 H0 F H : Hp} {σ : St} {ρ : Env} {D' : Ends} {i : Nat} {f : List D → Res Fl} (s : Sok L K F0 H0 F H σ ρ) (h : Aft L K W F0 H0 D' ((ownL ρ i).bind f)) :
    ∃ xs p vs, ρ.at i = some (.own (.list xs)) ∧ σ[i]? = some (some (.ref p)) ∧ H p = some (.lst vs) ∧ Reps K F vs xs ∧ True ∧ Aft L K W F0 H0 D' (f xs) := by
  unfold ownL at h
  split at h
  · rename_i xs hat
    obtain ⟨v, hv, sl⟩ := s.st.ok i _ hat
    obtain ⟨p, vs, rfl, hp, r, _⟩ := sl
    exact ⟨xs, p, vs, hat, hv, hp, r, trivial, h⟩
  · exact h.elim
theorem ownK_ok {K : PySem.W.Frag} {W : Str → St → Hp → Prop} {F0 H0 F H : Hp} {σ : St} {ρ : Env} {D' : Ends} {i : Nat} {f : List (D × D) → Res Fl} (s : Sok L K F0 H0 F H σ ρ) (h : Aft L K W F0 H0 D' ((ownK ρ i).bind f)) :
    ∃ xs p vs, ρ.at i = some (.own (.dict xs)) ∧ σ[i]? = some (some (.ref p)) ∧ H p = some (.dK vs) ∧ RepK K F vs xs ∧ Aft L K W F0 H0 D' (f xs) := by
  unfold ownK at h
  split at h
  · rename_i xs hat
    obtain ⟨v, hv, sl⟩ := s.st.ok i _ hat
    obtain ⟨p, vs, rfl, hp, r, _⟩ := sl
    exact ⟨xs, p, vs, hat, hv, hp, r, h⟩
  · exact h.elim
theorem r_app (g : Good nm G fe xa Wx X) {i : Nat} {e : E} {x : Str} {y : Expr} {p ap cp pos : Pos} (hx : slotOk X.N X.env.scope i x = true) (hy : plainR y = true) (hl : (ap.endLine == cp.line) = true) (he : PE X y (tE X.K G fe (wOf xa Wx) e)) :
    PS X (.Expr (.Call (.Attribute (.Name x p) "append" ap) [y] [] cp) pos) (tS X.K G fe (wOf xa Wx) ec (.app i e)) := by
  obtain ⟨h1, h2, h3, h4⟩ := slot_vis hx
  have pa := pa_cons he (pa_nil (X := X)) (star_one hy _ _)
  have ss := star_one hy [] X.env
  have few : ((backTo cp (starEach [y] X.env)).all (fun x => !x.1) && (backToKw cp (keywordEach [] X.env)).all (fun x => x.1.isSome)
      && decide ([y].length + ([] : List Keyword).length + (if ([] : List Keyword).isEmpty then 0 else 1) < 30)) = true := by rw [ss]; rfl
  refine (ps_expr (pe_bm F.plainAttrs_list F.slot_list_append F.type_list_append (r := rAppend) (X := X) mt_append (pe_var h1 h2 h3 h4) pa rfl few hl ss rfl)).weak fun D σ H q => ?_
  obtain ⟨L, F0, H0, F, ρ, s, q⟩ := q
  have q : Aft L X.K (wOf xa Wx) F0 H0 D ((ownL ρ i).bind fun xs => (evalE G fe e ρ).bind fun d => if i ∈ esc e then .bad else if xs.length < sizeLine then .ok (.next ((frzE ρ (esc e)).put i (some (.own (.list (xs ++ [d])))))) else .bad) := q
  obtain ⟨xs, p, vs, hat, hs, hp, rs, hx, q⟩ := ownL_ok s q
  refine ⟨.ref p, hs, .inl ⟨rfl, vs, SqL.of hp⟩, ?_⟩
  refine ev_stepE s q fun d q2 F2 H1 v e2 s2 r => ?_
  split at q2
  · exact q2.elim
  · rename_i hni
    split at q2
    · rename_i hz
      have hp1 : H1 p = some (.lst vs) := e2.same.keep p _ hp rfl
      have hat2 : (frzE ρ (esc e)).at i = some (.own (.list xs)) := by rw [frzE_at, if_neg hni]; exact hat
      have rs2 := rs.mono e2.sub
      refine ⟨p, vs, v, rfl, rfl, hp1, by rw [rs.length]; exact hz, ?_⟩
      have fp := (s2.own i _ p hat2 trivial hs).1
      exact q2 σ F2 _ (s2.mut (t0 := .own (.list xs)) (t1 := .own (.list (xs ++ [d]))) hat2 trivial hs rfl trivial ⟨p, _, rfl, upd_same, rs2.append (.cons r .nil), .inl fp⟩)
    · exact q2.elim
theorem r_ext (g : Good nm G fe xa Wx X) {i : Nat} {e : E} {x : Str} {y : Expr} {p ap cp pos : Pos} (hx : slotOk X.N X.env.scope i x = true) (hy : plainR y = true) (hl : (ap.endLine == cp.line) = true) (he : PE X y (tB X.K G fe (wOf xa Wx) e)) :
    PS X (.Expr (.Call (.Attribute (.Name x p) "extend" ap) [y] [] cp) pos) (tS X.K G fe (wOf xa Wx) ec (.ext i e)) := by
  obtain ⟨h1, h2, h3, h4⟩ := slot_vis hx
  have pa := pa_cons he (pa_nil (X := X)) (star_one hy _ _)
  have ss := star_one hy [] X.env
  have few : ((backTo cp (starEach [y] X.env)).all (fun x => !x.1) && (backToKw cp (keywordEach [] X.env)).all (fun x => x.1.isSome)
      && decide ([y].length + ([] : List Keyword).length + (if ([] : List Keyword).isEmpty then 0 else 1) < 30)) = true := by rw [ss]; rfl
  refine (ps_expr (pe_bm F.plainAttrs_list F.slot_list_extend F.type_list_extend (r := rExt X.K) (X := X) mt_ext (pe_var h1 h2 h3 h4) pa rfl few hl ss rfl)).weak fun D σ H q => ?_
  obtain ⟨L, F0, H0, F, ρ, s, q⟩ := q
  have q : Aft L X.K (wOf xa Wx) F0 H0 D ((ownL ρ i).bind fun xs => (bor e ρ (evalE G fe e ρ)).bind fun d => if i ∈ escB e then .bad else match d with
    | .list ys => if xs.length + ys.length ≤ sizeLine then .ok (.next ((frzE ρ (escB e)).put i (some (.own (.list (xs ++ ys)))))) else .bad
    | _ => .bad) := q
  obtain ⟨xs, p, vs, hat, hs, hp, rs, hx, q⟩ := ownL_ok s q
  refine ⟨.ref p, hs, .inl ⟨rfl, vs, SqL.of hp⟩, ?_⟩
  refine ⟨F, ρ, s.inn, s.st, ?_⟩
  cases hb : bor e ρ (evalE G fe e ρ) with
  | bad => rw [hb] at q; exact q.elim
  | exc c => rw [hb] at q; exact fun F' H' e1 => q σ F' H' (s.out e1)
  | ok d =>
    rw [hb] at q
    intro F1 H1 e1 v r
    obtain ⟨F2, s2, sb, eq, e2⟩ := s.frz e1
    have q2 : Aft L X.K (wOf xa Wx) F0 H0 D (if i ∈ escB e then .bad else match (generalizing := false) d with
      | .list ys => if xs.length + ys.length ≤ sizeLine then .ok (.next ((frzE ρ (escB e)).put i (some (.own (.list (xs ++ ys)))))) else .bad
      | _ => .bad) := q
    split at q2
    · exact q2.elim
    · rename_i hni
      cases d with
      | list ys =>
        have q2 : Aft L X.K (wOf xa Wx) F0 H0 D (if xs.length + ys.length ≤ sizeLine then .ok (.next ((frzE ρ (escB e)).put i (some (.own (.list (xs ++ ys)))))) else .bad) := q2
        split at q2
        · rename_i hz
          obtain ⟨b, zs, rfl, hb, rz⟩ := r
          have hp1 : H1 p = some (.lst vs) := e1.same.keep p _ hp rfl
          have hat2 : (frzE ρ (escB e)).at i = some (.own (.list xs)) := by rw [frzE_at, if_neg hni]; exact hat
          have rs2 := rs.mono e2.sub
          refine ⟨p, b, vs, zs, rfl, rfl, hp1, hb, by rw [rs.length, rz.length]; exact hz, ?_⟩
          have fp := (s2.own i _ p hat2 trivial hs).1
          exact q2 σ F2 _ (s2.mut (t0 := .own (.list xs)) (t1 := .own (.list (xs ++ ys))) hat2 trivial hs rfl trivial ⟨p, _, rfl, upd_same, rs2.append (rz.mono sb), .inl fp⟩)
        · exact q2.elim
      | _ => exact q2.elim
theorem r_dput (g : Good nm G fe xa Wx X) {i : Nat} {k v : E} {x : Str} {y z : Expr} {p sp pos : Pos} (hx : slotOk X.N X.env.scope i x = true) (hk : PE X y (tE X.K G fe (wOf xa Wx) k)) (hv : PE X z (tE X.K G fe (wOf xa Wx) v)) :
    PS X (.Assign [.Subscript (.Name x p) y sp] z pos) (tS X.K G fe (wOf xa Wx) ec (.dput i k v)) := by
  obtain ⟨h1, h2, h3, h4⟩ := slot_vis hx
  refine (ps_dput (by have := g.hu; omega) (pe_var h1 h2 h3 h4) hk hv (by cases z <;> rfl)).weak fun D σ H q => ?_
  obtain ⟨L, F0, H0, F, ρ, s, q⟩ := q
  have q : Aft L X.K (wOf xa Wx) F0 H0 D ((ownK ρ i).bind fun kvs => (evalE G fe v ρ).bind fun y => (evalE G fe k ρ).bind fun x => if i ∈ esc v ++ esc k then .bad else match dKey x with
    | some key => if kvs.length < sizeLine then .ok (.next ((frzE ρ (esc v ++ esc k)).put i (some (.own (.dict (putD kvs key y)))))) else .bad
    | none => .bad) := q
  obtain ⟨kvs, p, vs, hat, hs, hp, rs, q⟩ := ownK_ok s q
  refine ⟨F, ρ, s.inn, s.st, ?_⟩
  cases hev : evalE G fe v ρ with
  | bad => rw [hev] at q; exact q.elim
  | exc c => rw [hev] at q; exact fun F' H' e1 => q σ F' H' (s.out e1)
  | ok d =>
    rw [hev] at q
    intro F1 H1 e1 w rw'
    refine ⟨.ref p, hs, F1, ρ, e1.inn, s.st.ext e1 s.inn, ?_⟩
    have q : Aft L X.K (wOf xa Wx) F0 H0 D ((evalE G fe k ρ).bind fun x => if i ∈ esc v ++ esc k then .bad else match dKey x with
      | some key => if kvs.length < sizeLine then .ok (.next ((frzE ρ (esc v ++ esc k)).put i (some (.own (.dict (putD kvs key d)))))) else .bad
      | none => .bad) := q
    cases hek : evalE G fe k ρ with
    | bad => rw [hek] at q; exact q.elim
    | exc c => rw [hek] at q; exact fun F' H' e2 => q σ F' H' (s.out (e1.trans e2 (fun _ => esc_l (b := esc k)) fun _ => esc_r))
    | ok kd =>
      rw [hek] at q
      intro F2 H2 e2 kv rk
      have q : Aft L X.K (wOf xa Wx) F0 H0 D (if i ∈ esc v ++ esc k then .bad else match dKey kd with
        | some key => if kvs.length < sizeLine then .ok (.next ((frzE ρ (esc v ++ esc k)).put i (some (.own (.dict (putD kvs key d)))))) else .bad
        | none => .bad) := q
      have e12 : Ext (EscA σ ρ (esc v ++ esc k)) F H F2 H2 := e1.trans e2 (fun _ => esc_l) fun _ => esc_r
      obtain ⟨F3, s3, sb, eq, e3⟩ := s.frz e12
      split at q
      · exact q.elim
      · rename_i hni
        split at q
        · rename_i key hkey
          split at q
          · rename_i hz
            have hp2 : H2 p = some (.dK vs) := e12.same.keep p _ hp rfl
            have hat2 : (frzE ρ (esc v ++ esc k)).at i = some (.own (.dict kvs)) := by rw [frzE_at, if_neg hni]; exact hat
            have fp := (s3.own i _ p hat2 trivial hs).1
            have kk : kv = kV key ∧ KOk key := by
              cases rk with
              | int j => cases hkey; exact ⟨rfl, trivial⟩
              | str ho => cases hkey; exact ⟨rfl, ho⟩
              | _ => cases hkey
            obtain ⟨rfl, ko⟩ := kk
            refine ⟨p, _, rfl, DPut.k hp2 (by rw [rs.length]; exact hz), ?_⟩
            have r3 : RepK X.K F3 vs kvs := rs.mono e3.sub
            have rv : Rep X.K F3 w d := rw'.mono (e2.sub.trans sb)
            exact q σ F3 _ (s3.mut (t0 := .own (.dict kvs)) (t1 := .own (.dict (putD kvs key d))) hat2 trivial hs rfl trivial ⟨p, _, rfl, upd_same, r3.put ko rv, .inl fp⟩)
          · exact q.elim
        · exact q.elim
end
end G7

namespace G7
open L2 PyProof.Rows PySem.Spec PySem
variable {nm : Nms} {G : Nat → Option D} {fe : Nat → List D → Res D} {xa : Str → Addr} {ec : Nat → Str} {L : Nat → Option Addr}
/-! ### stores -/
def clash (s : Scope) (x : Str) : Bool := s.names.any fun (n, k) => n == x && (k == .local || k == .cell)
theorem sw_lc {elt : Expr} {gs : List Comprehension} {scope : Scope} {pos py : Pos} {y : Str} {l : Nat} {env : PySem.Env} (hk : env.scope.kind = .function) :
    swapsWith (.ListComp elt gs scope pos) (some (.Name y py)) l env = pure (env.scope.names.lookup y == some .local && py.line == pos.line && !(clash scope y)) := by
  have hb : env.blockKind = .function := by unfold Env.blockKind; rw [hk]; rfl
  unfold swapsWith
  simp only [hb, Env.kindOf, Expr.pos]
  rfl
def noComp : Expr → Bool
  | .SetComp _ _ _ _ => false
  | .DictComp _ _ _ _ _ => false
  | _ => true
def isLc : Expr → Bool
  | .ListComp _ _ _ _ => true
  | _ => false
theorem sw_no {v : Expr} (h : noComp v = true) (h2 : isLc v = false) (t : Option Expr) (l : Nat) (env : PySem.Env) : swapsWith v t l env = pure false := by
  cases v <;> first | rfl | (cases h2; done) | (cases h; done)
theorem sw_tup {v : Expr} (es : List Expr) (kk : Nat) (pos : Pos) (l : Nat) (env : PySem.Env) : swapsWith v (some (.Tuple es kk pos)) l env = pure false := by
  cases v <;> rfl
def isTup : Expr → Bool
  | .Tuple _ _ _ => true
  | _ => false
theorem st_no {v t : Expr} (h : isTup v = false) (env : PySem.Env) : swappedStores [t] v env = pure none := by
  cases v <;> first | (cases t <;> rfl; done) | (cases h; done)
section
variable {X : Cx} {Wx : WX}
/-- name = value, the name as it may be -/
theorem a_name (g : Good nm G fe xa Wx X) (hk : X.env.scope.kind = .function) {i : Nat} {x : Str} {p pos : Pos} {e : E} {v : Expr} (hi : X.N[i]? = some x) (hx : X.env.scope.names.lookup x = some .local ∨ X.env.scope.names.lookup x = some .cell ∧ X.fn x = true)
    (hc : noComp v = true) (he : chkE nm X.N X.env.scope e v = true) : PS X (.Assign [.Name x p] v pos) (tAsg (tX X.K G fe (wOf xa Wx) e) (gName i)) := by
  have hl : Loc X.env.scope x := hx.imp id (·.1)
  have hf : X.fn x = true ∨ X.env.scope.names.lookup x = some .local := hx.elim .inr fun q => .inl q.2
  cases hlc : isLc v with
  | false => exact ps_set g.nd hi hl ((sound e).ev g v he) (sw_no hc hlc _ _ _) hf
  | true =>
    cases v with
    | ListComp elt gens scope lpos =>
      cases hs : (X.env.scope.names.lookup x == some .local && p.line == lpos.line && !(clash scope x)) with
      | false => exact ps_set g.nd hi hl ((sound e).ev g _ he) (by rw [sw_lc hk, hs]) hf
      | true =>
        have hloc : X.env.scope.names.lookup x = some .local := by
          simp only [Bool.and_eq_true] at hs
          simpa using hs.1.1
        cases e with
        | lc el t it cs =>
          rcases gens with _ | ⟨⟨tg, iter, ifs, n⟩, _ | ⟨_, _⟩⟩
          · unfold chkE at he; cases he
          · rcases n with (_ | n) | n
            · change chkE nm X.N X.env.scope (.lc el t it cs) (.ListComp elt [⟨tg, iter, ifs, 0⟩] scope lpos) = true at he
              unfold chkE at he
              simp only [Bool.and_eq_true] at he
              obtain ⟨⟨⟨⟨⟨⟨h1, h2⟩, h3⟩, h4⟩, h5⟩, h6⟩, h7⟩ := he
              have key := ps_setLc (X := X) (i := i) (y := x) (py := p) (spos := pos) (elt := elt) (tg := tg) (iter := iter) (ifs := ifs) (scope := scope) (own := ownOf' X.N t) (pos := lpos) (wi := tI X.K G fe (wOf xa Wx) it) (g := tG X.K t) (tt := tC X.K G fe (fun _ _ _ => False) cs) (te := tE X.K G fe (fun _ _ _ => False) el)
                g.calm g.nd hi hloc (by rw [sw_lc hk, hs]) ((sound it).it g tg iter h1) (blkOk_by h3)
                (fun s H C cl fp => soundG (X := X.blk s H scope (compEnvC scope cl C X.env) fp) g.nd g.calm t tg h4)
                (fun s H C cl fp => (sound cs).cd (X := X.blk s H scope (compEnvC scope cl C X.env) fp) (Wx := noW) (g.blk s H scope _ fp) ifs h5)
                (fun s H C cl fp => (sound el).ee (X := X.blk s H scope (compEnvC scope cl C X.env) fp) (Wx := noW) (g.blk s H scope _ fp) elt h7)
                (fun v => plain_iter h2 _ v)
              refine key.weak fun D σ H q => ?_
              rw [own_slots]
              exact lc_read (en_tp h1 h4) q
            · unfold chkE at he; cases he
            · unfold chkE at he; cases he
          · rcases n with (_ | n) | n <;> (unfold chkE at he; cases he)
        | isi a ts => rcases ts with _ | ⟨_, _ | ⟨_, _⟩⟩ <;> (unfold chkE at he; cases he)
        | _ => unfold chkE at he; cases he
    | _ => cases hlc
/-- a, b = x, y -/
theorem st_par2 {env : PySem.Env} {x y : Str} {px py pt pt2 : Pos} {kt k2 : Nat} {a b : Expr} (hk : env.scope.kind = .function) (hx : env.scope.names.lookup x = some .local) (hy : env.scope.names.lookup y = some .local) (hxy : x ≠ y) (hl : (py.line == px.line) = true)
    (ha : plainR a = true) (hb : plainR b = true) (hf : ([a, b].all (foldedForSure 8)) = false) (hc : ([a, b].all (constantsAlone 8)) = false) :
    swappedStores [.Tuple [.Name x px, .Name y py] kt pt] (.Tuple [a, b] k2 pt2) env = pure (some [x, y]) := by
  have hbk : env.blockKind = .function := by unfold Env.blockKind; rw [hk]; rfl
  have kx : env.kindOf x = some .local := hx
  have ky : env.kindOf y = some .local := hy
  have hd : ([x, y].eraseDups).length = 2 := by
    have : (y == x) = false := by simpa using Ne.symm hxy
    simp [List.eraseDups_cons, this]
  unfold swappedStores
  simp only [hbk, hf, hc, kx, ky, hl, hd, Expr.pos, List.head?, List.filterMap, List.length_cons, List.length_nil, Option.map, Option.getD, beq_self_eq_true, Bool.and_self, Bool.true_and, if_true, bne_self_eq_false, Bool.or_false, Bool.false_or, Bool.not_true, Bool.not_false]
  rw [if_neg (by decide), if_neg]
  · rfl
  · intro h
    obtain ⟨e, he, hm⟩ := List.any_eq_true.mp h
    have hp : plainR e = true := by
      simp only [List.mem_cons, List.not_mem_nil, or_false] at he
      rcases he with rfl | rfl <;> assumption
    cases e <;> first | (cases hm; done) | (cases hp; done)
theorem st_par3 {env : PySem.Env} {x y z : Str} {px py pz pt pt2 : Pos} {kt k2 : Nat} {a b c : Expr} (hk : env.scope.kind = .function) (hx : env.scope.names.lookup x = some .local) (hy : env.scope.names.lookup y = some .local) (hz : env.scope.names.lookup z = some .local) (hxy : x ≠ y) (hxz : x ≠ z) (hyz : y ≠ z) (hl : (py.line == px.line) = true) (hl2 : (pz.line == px.line) = true)
    (ha : plainR a = true) (hb : plainR b = true) (hcc : plainR c = true) (hf : ([a, b, c].all (foldedForSure 8)) = false) (hc : ([a, b, c].all (constantsAlone 8)) = false) :
    swappedStores [.Tuple [.Name x px, .Name y py, .Name z pz] kt pt] (.Tuple [a, b, c] k2 pt2) env = pure (some [x, y, z]) := by
  have hbk : env.blockKind = .function := by unfold Env.blockKind; rw [hk]; rfl
  have kx : env.kindOf x = some .local := hx
  have ky : env.kindOf y = some .local := hy
  have kz : env.kindOf z = some .local := hz
  have hd : ([x, y, z].eraseDups).length = 3 := by
    have h1 : (y == x) = false := by simpa using Ne.symm hxy
    have h2 : (z == x) = false := by simpa using Ne.symm hxz
    have h3 : (z == y) = false := by simpa using Ne.symm hyz
    simp [List.eraseDups_cons, h1, h2, h3]
  unfold swappedStores
  simp only [hbk, hf, hc, kx, ky, kz, hl, hl2, hd, Expr.pos, List.head?, List.filterMap, List.length_cons, List.length_nil, Option.map, Option.getD, beq_self_eq_true, Bool.and_self, Bool.true_and, if_true, bne_self_eq_false, Bool.or_false, Bool.false_or, Bool.not_true, Bool.not_false]
  rw [if_neg (by decide), if_neg]
  · rfl
  · intro h
    obtain ⟨e, he, hm⟩ := List.any_eq_true.mp h
    have hp : plainR e = true := by
      simp only [List.mem_cons, List.not_mem_nil, or_false] at he
      rcases he with rfl | rfl | rfl <;> assumption
    cases e <;> first | (cases hm; done) | (cases hp; done)
theorem r_par {st : Stmt} {i j : Nat} {es : E} (h : PS X st (tPar i j (tA X.K G fe (wOf xa Wx) es))) : PS X st (tS X.K G fe (wOf xa Wx) ec (.asg (.tp (.cons (.nm i) (.cons (.nm j) .nil))) (.tup es))) := by
  refine h.weak fun D σ H q => ?_
  obtain ⟨L, F0, H0, F, ρ, s, q⟩ := q
  have q : Aft L X.K (wOf xa Wx) F0 H0 D (((evalA G fe es ρ).bind fun ds => .ok (.tuple ds)).bind fun d => (bindT (.tp (.cons (.nm i) (.cons (.nm j) .nil))) d (frzE ρ (escA es))).bind fun ρ1 => .ok (.next ρ1)) := q
  refine ⟨F, ρ, s.inn, s.st, ?_⟩
  cases he : evalA G fe es ρ with
  | bad => rw [he] at q; exact q
  | exc c => rw [he] at q; exact fun F' H' e1 => q σ F' H' (s.out e1)
  | ok ds =>
    rw [he] at q
    intro F1 H1 e1 vs rs
    obtain ⟨F2, s2, sb, eq, e2⟩ := s.frz e1
    have q : Aft L X.K (wOf xa Wx) F0 H0 D ((bindT.bindTs (.cons (.nm i) (.cons (.nm j) .nil)) ds (frzE ρ (escA es))).bind fun ρ1 => .ok (.next ρ1)) := q
    replace rs := rs.mono sb
    cases rs with
    | nil => exact q.elim
    | @cons v1 vs1 d1 ds1 r1 rs =>
      cases rs with
      | nil => exact q.elim
      | @cons v2 vs2 d2 ds2 r2 rs =>
        cases rs with
        | nil => exact ⟨v1, v2, rfl, q _ F2 H1 ((s2.put i r1).put j r2)⟩
        | cons r3 rs => exact q.elim
theorem r_par3 {st : Stmt} {i j l : Nat} {es : E} (h : PS X st (tPar3 i j l (tA X.K G fe (wOf xa Wx) es))) : PS X st (tS X.K G fe (wOf xa Wx) ec (.asg (.tp (.cons (.nm i) (.cons (.nm j) (.cons (.nm l) .nil)))) (.tup es))) := by
  refine h.weak fun D σ H q => ?_
  obtain ⟨L, F0, H0, F, ρ, s, q⟩ := q
  have q : Aft L X.K (wOf xa Wx) F0 H0 D (((evalA G fe es ρ).bind fun ds => .ok (.tuple ds)).bind fun d => (bindT (.tp (.cons (.nm i) (.cons (.nm j) (.cons (.nm l) .nil)))) d (frzE ρ (escA es))).bind fun ρ1 => .ok (.next ρ1)) := q
  refine ⟨F, ρ, s.inn, s.st, ?_⟩
  cases he : evalA G fe es ρ with
  | bad => rw [he] at q; exact q
  | exc c => rw [he] at q; exact fun F' H' e1 => q σ F' H' (s.out e1)
  | ok ds =>
    rw [he] at q
    intro F1 H1 e1 vs rs
    obtain ⟨F2, s2, sb, eq, e2⟩ := s.frz e1
    have q : Aft L X.K (wOf xa Wx) F0 H0 D ((bindT.bindTs (.cons (.nm i) (.cons (.nm j) (.cons (.nm l) .nil))) ds (frzE ρ (escA es))).bind fun ρ1 => .ok (.next ρ1)) := q
    replace rs := rs.mono sb
    cases rs with
    | nil => exact q.elim
    | @cons v1 vs1 d1 ds1 r1 rs =>
      cases rs with
      | nil => exact q.elim
      | @cons v2 vs2 d2 ds2 r2 rs =>
        cases rs with
        | nil => exact q.elim
        | @cons v3 vs3 d3 ds3 r3 rs =>
          cases rs with
          | nil => exact ⟨v1, v2, v3, rfl, q _ F2 H1 (((s2.put i r1).put j r2).put l r3)⟩
          | cons r4 rs => exact q.elim
end
end G7

namespace G7
open L2 PyProof.Rows PySem.Spec PySem
variable {nm : Nms} {G : Nat → Option D} {fe : Nat → List D → Res D} {xa : Str → Addr} {ec : Nat → Str} {L : Nat → Option Addr}
section
variable {X : Cx} {Wx : WX}
/-! ### d.update(e) -/
def rDupd : V → List V → Hp → VK → Prop := fun x vs H Q => ∃ (d o : Addr) (kvs more : List (Key × V)), x = .ref d ∧ vs = [.ref o] ∧ d ≠ o ∧ H d = some (.dK kvs) ∧ H o = some (.dK more) ∧ kvs.length + more.length ≤ sizeLine ∧ Q .non (upd H d (.dK (mergeK kvs more)))
theorem mt_dupd : MtR X "dict.update" rDupd := by
  intro pins s σ H x vs v us Q I rx rv h
  obtain ⟨d, o, kvs, more, rfl, rfl, hne, hd, ho, hz, q⟩ := h
  cases rx
  obtain ⟨u, rfl, ru⟩ := rv.one
  cases ru
  obtain ⟨z1, n1, vs1, r1, d1⟩ := dk_of I.hok hd
  obtain ⟨z2, n2, vs2, r2, d2⟩ := dk_of I.hok ho
  have l1 : kvs.length = vs1.length := Paired.length r1
  have l2 : more.length = vs2.length := Paired.length r2
  refine call_meetsIn F.slot_dict_update d1.typeIs F.entry_dict_update (F.args_dict_update_2 _ _) (meets_dict_update (mixKind X.prog X.w) d o hne n2) ⟨vs1, vs2, d1, d2, by omega, fun h' dd' _ hs => ⟨.non, _, ?_, rfl, q⟩⟩
  have he : ∃ q, h'.get? d = some q := let ⟨q, _, _, hq, _⟩ := dd'; ⟨q, hq⟩
  have hl := length_mergeK more kvs
  exact d_write I (by rw [hd]; exact True.intro) hs he (dk_new (by omega) n1 (r2.merge r1) dd')
theorem r_dupd (g : Good nm G fe xa Wx X) {i : Nat} {e : E} {x : Str} {y : Expr} {p ap cp pos : Pos} (hx : slotOk X.N X.env.scope i x = true) (hy : plainR y = true) (hl : (ap.endLine == cp.line) = true) (he : PE X y (tE X.K G fe (wOf xa Wx) e)) :
    PS X (.Expr (.Call (.Attribute (.Name x p) "update" ap) [y] [] cp) pos) (tS X.K G fe (wOf xa Wx) ec (.dupd i e)) := by
  obtain ⟨h1, h2, h3, h4⟩ := slot_vis hx
  have pa := pa_cons he (pa_nil (X := X)) (star_one hy _ _)
  have ss := star_one hy [] X.env
  have few : ((backTo cp (starEach [y] X.env)).all (fun x => !x.1) && (backToKw cp (keywordEach [] X.env)).all (fun x => x.1.isSome)
      && decide ([y].length + ([] : List Keyword).length + (if ([] : List Keyword).isEmpty then 0 else 1) < 30)) = true := by rw [ss]; rfl
  refine (ps_expr (pe_bm F.plainAttrs_dict F.slot_dict_update F.type_dict_update (r := rDupd) (X := X) mt_dupd (pe_var h1 h2 h3 h4) pa rfl few hl ss rfl)).weak fun D σ H q => ?_
  obtain ⟨L, F0, H0, F, ρ, s, q⟩ := q
  have q : Aft L X.K (wOf xa Wx) F0 H0 D ((ownK ρ i).bind fun kvs => (evalE G fe e ρ).bind fun d => if i ∈ esc e then .bad else match d with
    | .dict more => if kvs.length + more.length < sizeLine then .ok (.next ((frzE ρ (esc e)).put i (some (.own (.dict (mergeD kvs more)))))) else .bad
    | _ => .bad) := q
  obtain ⟨kvs, p, vs, hat, hs, hp, rs, q⟩ := ownK_ok s q
  refine ⟨.ref p, hs, .inr (.inr (.inl ⟨rfl, .inl ⟨vs, hp⟩⟩)), ?_⟩
  refine ev_stepE s q fun d q2 F2 H1 v e2 s2 r => ?_
  split at q2
  · exact q2.elim
  · rename_i hni
    cases d with
    | dict more =>
      have q2 : Aft L X.K (wOf xa Wx) F0 H0 D (if kvs.length + more.length < sizeLine then .ok (.next ((frzE ρ (esc e)).put i (some (.own (.dict (mergeD kvs more)))))) else .bad) := q2
      split at q2
      · rename_i hz
        have hp1 : H1 p = some (.dK vs) := e2.same.keep p _ hp rfl
        have hat2 : (frzE ρ (esc e)).at i = some (.own (.dict kvs)) := by rw [frzE_at, if_neg hni]; exact hat
        have fp := (s2.own i _ p hat2 trivial hs).1
        have rs2 := rs.mono e2.sub
        cases r with
        | @dct o ms _ ho rm =>
          refine ⟨p, o, vs, ms, rfl, rfl, fun z => (by rw [← z, fp] at ho; cases ho), hp1, s2.inn.sub _ _ ho, by rw [rs.length, rm.length]; omega, ?_⟩
          exact q2 σ F2 _ (s2.mut (t0 := .own (.dict kvs)) (t1 := .own (.dict (mergeD kvs more))) hat2 trivial hs rfl trivial ⟨p, _, rfl, upd_same, rm.merge rs2, .inl fp⟩)
      · exact q2.elim
    | _ => exact q2.elim
/-! ### e; -/
theorem r_expr {e : E} {y : Expr} {pos : Pos} (hn : noComp y = true) (hl : isLc y = false) (he : PE X y (tE X.K G fe (wOf xa Wx) e)) : PS X (.Expr y pos) (tS X.K G fe (wOf xa Wx) ec (.expr e)) := by
  refine (ps_expr he (sw_no hn hl _ _ _)).weak fun D σ H q => ?_
  obtain ⟨L, F0, H0, F, ρ, s, q⟩ := q
  refine ev_stepE s (show Aft L X.K (wOf xa Wx) F0 H0 D ((evalE G fe e ρ).bind _) from q) fun d q2 F2 H1 v _ s2 r => ?_
  exact q2 σ F2 H1 s2
/-! ### raise X("..") -/
theorem r_raise (g : Good nm G fe xa Wx X) {c : Nat} (hc : c ∈ nm.xs) (he : ec c = nm.x c) {x m : Str} {j : Nat} {p p2 q2 pos : Pos} (hx : x = nm.x c) (hg : globOk X.env.scope x = true) : PS X (.Raise (some (.Call (.Name x p) [.Constant (.str m) j p2] [] q2)) none pos) (tS X.K G fe (wOf xa Wx) ec (.raise c)) := by
  subst hx
  obtain ⟨h1, h2⟩ := glob_vis hg
  obtain ⟨e1, e2, e3, e4⟩ := g.exs c hc
  refine (ps_raise (X := X) (W := Wx) g.calm g.tk (pmk_own (j := j) (p := p) (p2 := p2) (pos := q2) (m := m) PySem.F.excBase_ValueError e1 e2 e3 e4 h1 h2)).weak fun D σ H q => ?_
  obtain ⟨L, F0, H0, F, ρ, s, q⟩ := q
  have q : Aft L X.K (wOf xa Wx) F0 H0 D (.exc (ec c)) := q
  rw [he] at q
  exact q σ F H s.ext
/-! ### a statement that walks an own dict -/
theorem r_lock {i : Nat} {b : S} {st : Stmt} (h : PS X st (tS X.K G fe (wOf xa Wx) ec b)) : PS X st (tS X.K G fe (wOf xa Wx) ec (.lock i b)) := by
  refine (ps_lock h).weak fun D σ H q => ?_
  obtain ⟨L, F0, H0, F, ρ, s, q⟩ := q
  have q : Aft L X.K (wOf xa Wx) F0 H0 D ((ownK ρ i).bind fun kvs => (exec G fe ec b (ρ.put i (some (.lck (.dict kvs))))).bind fun fl => unlock i fl) := q
  obtain ⟨kvs, p, vs, hat, hs, hp, rk, q⟩ := ownK_ok s q
  obtain ⟨fp, h0p⟩ := s.own i _ p hat trivial hs
  have hlt : i < ρ.length := by
    rcases Nat.lt_or_ge i ρ.length with z | z
    · exact z
    · rw [Env.at_ge z] at hat; cases hat
  refine ⟨p, .dK vs, hp, True.intro, fun od => ?_⟩
  have ne0 : ∀ {a o}, H0 a = some o → a ≠ p := fun e z => by rw [z, h0p] at e; cases e
  have nH : ∀ {a : Addr} {o : HO}, H a = some o → (∀ ks, o ≠ .dK ks) → a ≠ p := fun {a o} e n z => by rw [z, hp] at e; cases e; exact n _ rfl
  have up0 : Keeps H0 (upd H0 p (.frz od (.dK vs))) := Keeps.laid h0p
  have kH : Keeps (upd H0 p (.frz od (.dK vs))) (upd H p (.frz od (.dK vs))) := by
    refine ⟨fun a o e n => ?_, fun a ps e => ?_, fun P t => ?_⟩
    · by_cases z : a = p
      · subst z; rw [upd_same] at e ⊢; exact e
      · rw [upd_ne z] at e ⊢; exact s.ext.same.keep a o e n
    · have z : a ≠ p := fun z => by rw [z, upd_same] at e; cases e
      rw [upd_ne z] at e ⊢
      exact s.ext.same.tbl a ps e
    · have t0 : TabO H0 P := t.mono (fun ps e => by
        have z : P ≠ p := fun z => by rw [z, upd_same] at e; cases e
        rwa [upd_ne z] at e) fun c q e => by
        have z : c ≠ p := fun z => by rw [z, upd_same] at e; cases e
        rwa [upd_ne z] at e
      exact (s.ext.same.tab P t0).over (fun ps z => by rw [hp] at z; cases z) fun c q z => by rw [hp] at z; cases z
  have innL : Inn F (upd H p (.frz od (.dK vs))) := ⟨fun a u q => by rw [upd_ne (fun z => by rw [z, fp] at q; cases q)]; exact s.inn.sub a u q, s.inn.plain⟩
  have extL : Ext Nil F0 (upd H0 p (.frz od (.dK vs))) F (upd H p (.frz od (.dK vs))) := ⟨s.ext.sub, kH, fun a o e => by
    rcases s.ext.new a o e with z | z | z
    · exact .inl z
    · exact .inr (.inl (by rw [upd_ne (fun w => by rw [w, fp] at e; cases e)]; exact z))
    · exact z.elim, innL⟩
  have at' : ∀ {j t}, (ρ.put i (some (.lck (.dict kvs)))).at j = some t → (j = i ∧ t = .lck (.dict kvs)) ∨ (j ≠ i ∧ ρ.at j = some t) := by
    intro j t e
    by_cases hj : j = i
    · subst hj; rw [Env.at_put_self hlt] at e; cases e; exact .inl ⟨rfl, rfl⟩
    · rw [Env.at_put_ne hj] at e; exact .inr ⟨hj, e⟩
  have sL : Sok (fun j => if j = i then some p else if L j = some p then none else L j) X.K F0 (upd H0 p (.frz od (.dK vs))) F (upd H p (.frz od (.dK vs))) σ (ρ.put i (some (.lck (.dict kvs)))) := by
    refine ⟨⟨by rw [Env.put_length]; exact s.st.len, fun x hx P e => (s.st.tab x hx P e).over (fun ps z => by rw [hp] at z; cases z) (fun c q z => by rw [hp] at z; cases z), fun j t e => ?_⟩, extL, fun j t a e hm ha => ?_, fun j k t u a hjk e1 m1 e2 m2 => ?_, fun j d e => ?_⟩
    · rcases at' e with ⟨rfl, rfl⟩ | ⟨hj, e⟩
      · exact ⟨.ref p, hs, p, vs, od, rfl, upd_same, rk, fp⟩
      · obtain ⟨v, hv, sl⟩ := s.st.ok j t e
        refine ⟨v, hv, ?_⟩
        cases t with
        | dat d => exact sl
        | own d =>
          have hne := s.dis i j _ _ p (Ne.symm hj) hat trivial e trivial hs
          cases d with
          | list ds => obtain ⟨q, vs, rfl, hq, r⟩ := sl; exact ⟨q, vs, rfl, by rw [upd_ne (fun z => hne (by rw [hv, z]))]; exact hq, r⟩
          | dict ds => obtain ⟨q, vs, rfl, hq, r⟩ := sl; exact ⟨q, vs, rfl, by rw [upd_ne (fun z => hne (by rw [hv, z]))]; exact hq, r⟩
          | _ => exact sl.elim
        | lck d =>
          cases d with
          | dict ds => obtain ⟨q, vs, oo, rfl, hq, r⟩ := sl; exact ⟨q, vs, oo, rfl, by rw [upd_ne (nH hq fun ks z => by cases z)]; exact hq, r⟩
          | _ => exact sl.elim
    · rcases at' e with ⟨rfl, rfl⟩ | ⟨hj, e⟩
      · exact hm.elim
      · obtain ⟨z1, z2⟩ := s.own j t a e hm ha
        refine ⟨z1, ?_⟩
        rw [upd_ne (fun z => s.dis i j _ _ p (Ne.symm hj) hat trivial e hm hs (by rw [ha, z]))]
        exact z2
    · rcases at' e1 with ⟨rfl, rfl⟩ | ⟨_, e1⟩
      · exact m1.elim
      · rcases at' e2 with ⟨rfl, rfl⟩ | ⟨_, e2⟩
        · exact m2.elim
        · exact s.dis j k t u a hjk e1 m1 e2 m2
    · rcases at' e with ⟨rfl, ee⟩ | ⟨hj, e⟩
      · exact ⟨p, od, vs, if_pos rfl, hs, upd_same⟩
      · obtain ⟨a, o, ws, l1, l2, l3⟩ := s.lk j d e
        exact ⟨a, o, ws, by rw [if_neg hj, if_neg (fun z => by rw [l1] at z; cases z; exact ne0 l3 rfl)]; exact l1, l2, by rw [upd_ne (ne0 l3)]; exact l3⟩
  have out : ∀ {F2 H2 : Hp}, Ext Nil F0 (upd H0 p (.frz od (.dK vs))) F2 H2 → H2 p = some (.frz od (.dK vs)) ∧ F2 p = none ∧ Ext Nil F0 H0 F2 H2 ∧ Ext Nil F0 H0 F2 (upd H2 p (.dK vs)) := by
    intro F2 H2 e
    have h2 : H2 p = some (.frz od (.dK vs)) := e.same.keep p _ upd_same rfl
    have f2 : F2 p = none := by
      cases z : F2 p with
      | none => rfl
      | some o =>
        rcases e.new p o z with w | w | w
        · have := s.ext.sub p o w
          rw [fp] at this; cases this
        · rw [upd_same] at w; cases w
        · exact w.elim
    have new : ∀ a o, F2 a = some o → F0 a = some o ∨ H0 a = none ∨ Nil a := fun a o z => by
      rcases e.new a o z with w | w | w
      · exact .inl w
      · exact .inr (.inl (up0.free w))
      · exact w.elim
    refine ⟨h2, f2, ⟨e.sub, up0.trans e.same, new, e.inn⟩, ⟨e.sub, ⟨fun a o z n => ?_, fun a ps z => ?_, fun P t => ?_⟩, new, ⟨fun a u z => by rw [upd_ne (fun w => by rw [w, f2] at z; cases z)]; exact e.inn.sub a u z, e.inn.plain⟩⟩⟩
    · rw [upd_ne (ne0 z)]
      exact (up0.trans e.same).keep a o z n
    · obtain ⟨m, w⟩ := (up0.trans e.same).tbl a ps z
      exact ⟨m, by rw [upd_ne (ne0 z)]; exact w⟩
    · exact ((up0.trans e.same).tab P t).over (fun ps z => by rw [h2] at z; cases z) fun c q z => by rw [h2] at z; cases z
  have back : ∀ {F2 H2 : Hp} {σ2 : St} {ρ2 ρ3 : Env}, unlE i ρ2 = .ok ρ3 → Sok (fun j => if j = i then some p else if L j = some p then none else L j) X.K F0 (upd H0 p (.frz od (.dK vs))) F2 H2 σ2 ρ2 → H2 p = some (.frz od (.dK vs)) ∧ Sok L X.K F0 H0 F2 (upd H2 p (.dK vs)) σ2 ρ3 := by
    intro F2 H2 σ2 ρ2 ρ3 hu s2
    obtain ⟨h2, f2, _, e2⟩ := out s2.ext
    refine ⟨h2, ?_⟩
    unfold unlE at hu
    cases ha : ρ2.at i with
    | none => rw [ha] at hu; cases hu
    | some t =>
      rw [ha] at hu
      cases t with
      | dat d => cases hu
      | own d => cases hu
      | lck d =>
        cases hu
        obtain ⟨p', o', vs', l1, l2, l3⟩ := s2.lk i d ha
        rw [if_pos rfl] at l1
        cases l1
        obtain ⟨v, hv, sl⟩ := s2.st.ok i _ ha
        rw [l2] at hv
        cases hv
        have hl2 : i < ρ2.length := by
          rcases Nat.lt_or_ge i ρ2.length with z | z
          · exact z
          · rw [Env.at_ge z] at ha; cases ha
        cases d with
        | dict ds =>
          obtain ⟨q, ws, oo, e, hq, r, _⟩ := sl
          cases e
          rw [h2] at hq
          cases hq
          have at2 : ∀ {j t}, (ρ2.put i (some (.own (.dict ds)))).at j = some t → (j = i ∧ t = .own (.dict ds)) ∨ (j ≠ i ∧ ρ2.at j = some t) := by
            intro j t e
            by_cases hj : j = i
            · subst hj; rw [Env.at_put_self hl2] at e; cases e; exact .inl ⟨rfl, rfl⟩
            · rw [Env.at_put_ne hj] at e; exact .inr ⟨hj, e⟩
          have own2 : ∀ {j t a}, ρ2.at j = some t → t.mine → σ2[j]? = some (some (.ref a)) → a ≠ p := fun e hm ha z => by
            have := (s2.own _ _ _ e hm ha).2
            rw [z, upd_same] at this; cases this
          refine ⟨⟨by rw [Env.put_length]; exact s2.st.len, fun x hx P e => (s2.st.tab x hx P e).over (fun ps z => by rw [h2] at z; cases z) (fun c q z => by rw [h2] at z; cases z), fun j t e => ?_⟩, e2, fun j t a e hm hja => ?_, fun j k t u a hjk g1 m1 g2 m2 a1 a2 => ?_, fun j d e => ?_⟩
          · rcases at2 e with ⟨rfl, rfl⟩ | ⟨hj, e⟩
            · exact ⟨.ref p, l2, p, vs, rfl, upd_same, r, .inl f2⟩
            · obtain ⟨v, hv, sl⟩ := s2.st.ok j t e
              refine ⟨v, hv, ?_⟩
              cases t with
              | dat d => exact sl
              | own d =>
                cases d with
                | list ds => obtain ⟨q, vs, rfl, hq, r⟩ := sl; exact ⟨q, vs, rfl, by rw [upd_ne (own2 e trivial hv)]; exact hq, r⟩
                | dict ds => obtain ⟨q, vs, rfl, hq, r⟩ := sl; exact ⟨q, vs, rfl, by rw [upd_ne (own2 e trivial hv)]; exact hq, r⟩
                | _ => exact sl.elim
              | lck d =>
                cases d with
                | dict ds =>
                  obtain ⟨q, ws, oo, rfl, hq, r⟩ := sl
                  obtain ⟨q', o', ws', m1, m2, m3⟩ := s2.lk j _ e
                  rw [hv] at m2
                  cases m2
                  rw [if_neg hj] at m1
                  refine ⟨q, ws, oo, rfl, ?_, r⟩
                  rw [upd_ne]
                  · exact hq
                  · intro z
                    subst z
                    split at m1
                    · cases m1
                    · rename_i w; exact w m1
                | _ => exact sl.elim
          · rcases at2 e with ⟨rfl, rfl⟩ | ⟨hj, e⟩
            · rw [l2] at hja; cases hja; exact ⟨f2, h0p⟩
            · exact ⟨(s2.own j t a e hm hja).1, up0.free (s2.own j t a e hm hja).2⟩
          · rcases at2 g1 with ⟨z1, _⟩ | ⟨n1, k1⟩ <;> rcases at2 g2 with ⟨z2, _⟩ | ⟨n2, k2⟩
            · exact hjk (z1.trans z2.symm)
            · rw [z1, l2] at a1; cases a1; exact own2 k2 m2 a2 rfl
            · rw [z2, l2] at a2; cases a2; exact own2 k1 m1 a1 rfl
            · exact s2.dis j k t u a hjk k1 m1 k2 m2 a1 a2
          · obtain ⟨hj, e⟩ := put_lck e (fun d z => by cases z)
            obtain ⟨q', o', ws', m1, m2, m3⟩ := s2.lk j _ e
            rw [if_neg hj] at m1
            split at m1
            · cases m1
            · rename_i w
              refine ⟨q', o', ws', m1, m2, ?_⟩
              rwa [upd_ne (fun z => w (by rw [← z]; exact m1))] at m3
        | _ => exact sl.elim
  refine ⟨_, F0, _, F, _, sL, ?_⟩
  cases he : exec G fe ec b (ρ.put i (some (.lck (.dict kvs)))) with
  | bad => rw [he] at q; exact q
  | exc c => rw [he] at q; exact fun σ' F' H' e => q σ' F' H' (out e).2.2.1
  | ok fl =>
    rw [he] at q
    have q : Aft L X.K (wOf xa Wx) F0 H0 D (unlock i fl) := q
    cases fl with
    | ret d => exact fun v F' H' e r => ⟨(out e).1, q v F' _ (out e).2.2.2 r⟩
    | next ρ2 =>
      have q : Aft L X.K (wOf xa Wx) F0 H0 D ((unlE i ρ2).bind fun ρ' => .ok (.next ρ')) := q
      cases hu : unlE i ρ2 with
      | bad => rw [hu] at q; exact q.elim
      | exc c => unfold unlE at hu; split at hu <;> cases hu
      | ok ρ3 => rw [hu] at q; exact fun σ' F' H' s2 => ⟨(back hu s2).1, q σ' F' _ (back hu s2).2⟩
    | cont ρ2 =>
      have q : Aft L X.K (wOf xa Wx) F0 H0 D ((unlE i ρ2).bind fun ρ' => .ok (.cont ρ')) := q
      cases hu : unlE i ρ2 with
      | bad => rw [hu] at q; exact q.elim
      | exc c => unfold unlE at hu; split at hu <;> cases hu
      | ok ρ3 => rw [hu] at q; exact fun σ' F' H' s2 => ⟨(back hu s2).1, q σ' F' _ (back hu s2).2⟩
    | brk ρ2 =>
      have q : Aft L X.K (wOf xa Wx) F0 H0 D ((unlE i ρ2).bind fun ρ' => .ok (.brk ρ')) := q
      cases hu : unlE i ρ2 with
      | bad => rw [hu] at q; exact q.elim
      | exc c => unfold unlE at hu; split at hu <;> cases hu
      | ok ρ3 => rw [hu] at q; exact fun σ' F' H' s2 => ⟨(back hu s2).1, q σ' F' _ (back hu s2).2⟩
/-! ### x = xs.pop(0) -/
theorem r_pop0 (g : Good nm G fe xa Wx X) {t i : Nat} {z x : Str} {zp xp ap cp p0 pos : Pos} {k0 : Nat} (hz : X.N[t]? = some z) (hzl : X.env.scope.names.lookup z = some .local ∨ X.env.scope.names.lookup z = some .cell ∧ X.fn z = true) (hx : slotOk X.N X.env.scope i x = true) (hl : (ap.endLine == cp.line) = true) :
    PS X (.Assign [.Name z zp] (.Call (.Attribute (.Name x xp) "pop" ap) [.Constant (.int 0) k0 p0] [] cp) pos) (tS X.K G fe (wOf xa Wx) ec (.pop0 t i)) := by
  obtain ⟨h1, h2, h3, h4⟩ := slot_vis hx
  have hlo : Loc X.env.scope z := hzl.imp id (·.1)
  have hf : X.fn z = true ∨ X.env.scope.names.lookup z = some .local := hzl.elim .inr fun q => .inl q.2
  have pm : PE X (.Call (.Attribute (.Name x xp) "pop" ap) [.Constant (.int 0) k0 p0] [] cp) _ := pe_bm F.plainAttrs_list F.slot_list_pop F.type_list_pop (r := rPopAt) (X := X) mt_popAt (pe_var h1 h2 h3 h4) (pa_cons (pe_int (i := 0) (j := k0) (pos := p0)) (pa_nil (X := X)) rfl) rfl rfl hl rfl rfl
  refine (ps_set g.nd hz hlo pm (sw_no rfl rfl _ _ _) hf).weak fun D σ H q => ?_
  obtain ⟨L, F0, H0, F, ρ, s, q⟩ := q
  have q : Aft L X.K (wOf xa Wx) F0 H0 D ((ownL ρ i).bind fun xs => match xs with
    | x :: r => .ok (.next ((ρ.put i (some (.own (.list r)))).put t (some (.dat x))))
    | [] => .bad) := q
  obtain ⟨xs, p, vs, hat, hs, hp, rs, _, q⟩ := ownL_ok s q
  cases rs with
  | nil => exact q.elim
  | @cons v vs' d ds r rs =>
    refine ⟨.ref p, hs, .inl ⟨rfl, _, SqL.of hp⟩, p, v :: vs', 0, 0, v, rfl, rfl, hp, by decide, by decide, seqIndex_of (by omega) (by simp), rfl, ?_⟩
    have fp := (s.own i _ p hat trivial hs).1
    have s1 := s.mut (t0 := .own (.list (d :: ds))) (t1 := .own (.list ds)) (o := .lst vs') hat trivial hs rfl trivial ⟨p, _, rfl, upd_same, rs, .inl fp⟩
    exact q _ F _ (s1.put t r)
end
end G7

namespace G7
open L2 PyProof.Rows PySem.Spec PySem
/-! ### try: .. except FaceError as e: .. -/
/-- what is known of the own exceptions' classes -/
structure TryK (nm : Nms) (xa : Str → Addr) (K : PySem.W.Frag) (mg : Str → Option Value) : Prop where
  ve : mg "ValueError" = none
  fe : mg "FaceError" = some (.ref (xa "FaceError"))
  ec : ∀ c ∈ nm.xs, ExcC K (xa (nm.x c))
  em : ∀ c ∈ nm.xs, PySem.W.exmOne K (.ref (xa (nm.x c))) (.ref (xa "FaceError")) = some true
  kv : ∀ c ∈ nm.xs, PySem.W.kitOne K (.ref (xa (nm.x c))) (.type "ValueError") = some true
  kx : ∀ c ∈ nm.xs, ∀ c' ∈ nm.xs, PySem.W.kitOne K (.ref (xa (nm.x c))) (.ref (xa (nm.x c'))) = some (decide (c = c'))
section
variable (nm : Nms) (sc : Scope) (n : Str)
def chkB : HB → Expr → Bool
  | .isx c, .Call (.Name f _) [.Name x _, .Name y _] [] _ => decide (f = "isinstance") && globOk sc f && decide (x = n) && decide (y = nm.x c) && globOk sc y && nm.xs.contains c
  | .isv, .Call (.Name f _) [.Name x _, .Name y _] [] _ => decide (f = "isinstance") && globOk sc f && decide (x = n) && decide (y = "ValueError") && globOk sc y
  | .and a b, .BoolOp .And (x :: y :: r) p => chkB a x && chkB b (.BoolOp .And (y :: r) p)
  | .or a b, .BoolOp .Or (x :: y :: r) p => chkB a x && chkB b (.BoolOp .Or (y :: r) p)
  | .one a, .BoolOp _ [x] _ => chkB a x
  | .not a, .UnaryOp .Not x _ => chkB a x
  | _, _ => false
def strOkB (s : Str) : Bool := decide (s.length ≤ sizeLine) && PySem.PyData.strOk s
def chkEl : Sum Str HB → Expr → Bool
  | .inl s, .Constant (.str x) _ _ => decide (x = s) && strOkB s
  | .inr b, x => plainR x && chkB nm sc n b x
  | _, _ => false
def chkEls : List (Sum Str HB) → List Expr → Bool
  | [], [] => true
  | e :: es, x :: xs => chkEl nm sc n e x && chkEls es xs
  | _, _ => false
end
variable {nm : Nms} {G : Nat → Option D} {fe : Nat → List D → Res D} {xa : Str → Addr} {ec : Nat → Str}
section
variable {X : Cx} {Wx : WX}
/-- a pure reading of something that looks at the caught exception -/
abbrev tPu (i : Nat) (a : Addr) (v : V) : TE := fun σ H Q => σ[i]? = some (some (.ref a)) ∧ Q v H
def eltV (k : Nat) : Sum Str HB → V
  | .inl s => .str s
  | .inr b => .bl (b.val k)
theorem el_plain {n : Str} {sc : Scope} {e : Sum Str HB} {x : Expr} (h : chkEl nm sc n e x = true) : plainR x = true := by
  unfold chkEl at h
  split at h
  · rfl
  · simp only [Bool.and_eq_true] at h; exact h.1
  · cases h
section
variable (g : Good nm G fe xa Wx X) (T : TryK nm xa X.K X.mg) {k : Nat} (hk : k ∈ nm.xs) {a : Addr} {oe : Obj} {pn : List (Addr × Obj)} (hz : Zc (.ref (xa (nm.x k))) none oe) (hf : ∃ vs, oe.data = .fields vs) {n : Str} {i : Nat} (hi : slotOk X.N X.env.scope i n = true)
include g T hk hz hf hi
theorem hb_ok : ∀ (b : HB) (x : Expr), chkB nm X.env.scope n b x = true → PE (X.suite a ((a, oe) :: pn)) x (tPu i a (.bl (b.val k))) := by
  have hm : X.mg "isinstance" = none := bt_names (by simp [bltNames]) g
  intro b
  induction b with
  | isx c =>
    intro x h
    unfold chkB at h
    split at h
    all_goals first | (cases h; done) | (rename_i heq; cases heq)
    simp only [Bool.and_eq_true, decide_eq_true_eq, List.contains_iff_mem] at h
    obtain ⟨⟨⟨⟨⟨rfl, h2⟩, rfl⟩, rfl⟩, h5⟩, h6⟩ := h
    obtain ⟨v1, v2, v3, v4⟩ := slot_vis hi
    obtain ⟨g1, g2⟩ := glob_vis h2
    obtain ⟨g3, g4⟩ := glob_vis h5
    refine (pe_callB (X := X.suite a ((a, oe) :: pn)) (call_isE (T.ec k hk) hz hf) g1 hm (by decide +kernel) (pa_cons (pe_var v1 v2 v3 v4) (pa_cons (pe_glob (v := .ref (xa (nm.x c))) g3 (g.exs c h6).2.1 rfl g4) pa_nil (star_one rfl _ _)) (star_one rfl _ _)) (by decide) g2 (star_one rfl _ _) rfl).weak fun σ H Q q => ?_
    exact ⟨_, q.1, _, _, _, rfl, fun u z => (by cases z; rfl), T.kx k hk c h6, q.2⟩
  | isv =>
    intro x h
    unfold chkB at h
    split at h
    all_goals first | (cases h; done) | (rename_i heq; cases heq)
    simp only [Bool.and_eq_true, decide_eq_true_eq] at h
    obtain ⟨⟨⟨⟨rfl, h2⟩, rfl⟩, rfl⟩, h5⟩ := h
    obtain ⟨v1, v2, v3, v4⟩ := slot_vis hi
    obtain ⟨g1, g2⟩ := glob_vis h2
    obtain ⟨g3, g4⟩ := glob_vis h5
    refine (pe_callB (X := X.suite a ((a, oe) :: pn)) (call_isE (T.ec k hk) hz hf) g1 hm (by decide +kernel) (pa_cons (pe_var v1 v2 v3 v4) (pa_cons (pe_bltn (v := V.ty "ValueError") (u := .type "ValueError") g3 T.ve (by decide +kernel) rfl (by decide) g4) pa_nil (star_one rfl _ _)) (star_one rfl _ _)) (by decide) g2 (star_one rfl _ _) rfl).weak fun σ H Q q => ?_
    exact ⟨_, q.1, _, _, _, rfl, fun u z => (by cases z; rfl), T.kv k hk, q.2⟩
  | and a' b' ia ib =>
    intro x h
    unfold chkB at h
    split at h
    all_goals first | (cases h; done) | (rename_i heq; cases heq)
    simp only [Bool.and_eq_true] at h
    refine (pe_and (ia _ h.1) (ib _ h.2)).weak fun σ H Q q => ?_
    refine ⟨q.1, _, rfl, ?_⟩
    have q2 : Q (.bl (a'.val k && b'.val k)) H := q.2
    cases z : a'.val k with
    | true => rw [z] at q2; rw [if_pos rfl]; exact ⟨q.1, by simpa using q2⟩
    | false => rw [z] at q2; rw [if_neg Bool.false_ne_true]; exact q2
  | or a' b' ia ib =>
    intro x h
    unfold chkB at h
    split at h
    all_goals first | (cases h; done) | (rename_i heq; cases heq)
    simp only [Bool.and_eq_true] at h
    refine (pe_or (ia _ h.1) (ib _ h.2)).weak fun σ H Q q => ?_
    refine ⟨q.1, _, rfl, ?_⟩
    have q2 : Q (.bl (a'.val k || b'.val k)) H := q.2
    cases z : a'.val k with
    | true => rw [z] at q2; rw [if_pos rfl]; exact q2
    | false => rw [z] at q2; rw [if_neg Bool.false_ne_true]; exact ⟨q.1, by simpa using q2⟩
  | one a' ia =>
    intro x h
    unfold chkB at h
    split at h
    all_goals first | (cases h; done) | (rename_i heq; cases heq)
    exact pe_one (ia _ h)
  | not a' ia =>
    intro x h
    unfold chkB at h
    split at h
    all_goals first | (cases h; done) | (rename_i heq; cases heq)
    exact (pe_not (ia _ h)).weak fun σ H Q q => ⟨q.1, _, rfl, q.2⟩
theorem el_ok {e : Sum Str HB} {x : Expr} (h : chkEl nm X.env.scope n e x = true) : PE (X.suite a ((a, oe) :: pn)) x (tPu i a (eltV k e)) := by
  unfold chkEl at h
  split at h
  · simp only [Bool.and_eq_true, decide_eq_true_eq] at h
    obtain ⟨rfl, _⟩ := h
    exact pe_str.weak fun σ H Q q => q.2
  · simp only [Bool.and_eq_true] at h
    exact hb_ok g T hk hz hf hi _ _ h.2
  · cases h
theorem els_ok : ∀ {es : List (Sum Str HB)} {xs : List Expr}, chkEls nm X.env.scope n es xs = true → PA (X.suite a ((a, oe) :: pn)) xs (fun σ H Q => σ[i]? = some (some (.ref a)) ∧ Q (es.map (eltV k)) H)
  | [], [], _ => pa_nil.weak fun σ H Q q => q.2
  | e :: es, x :: xs, h => by
    unfold chkEls at h
    simp only [Bool.and_eq_true] at h
    exact (pa_cons (el_ok g T hk hz hf hi h.1) (els_ok h.2) (star_one (el_plain h.1) _ _)).weak fun σ H Q q => ⟨q.1, q.1, q.2⟩
  | [], _ :: _, h => by unfold chkEls at h; cases h
  | _ :: _, [], h => by unfold chkEls at h; cases h
end
def tHv (k i : Nat) (a : Addr) : HV → TE
  | .non => fun _ H Q => Q .non H
  | .tup es => fun σ H Q => σ[i]? = some (some (.ref a)) ∧ ∀ p o, o.dict = none → H p = none → Q (.ref p) (upd H p (TupO o (es.map (eltV k))))
  | .plus j b => fun σ H Q => σ[i]? = some (some (.ref a)) ∧ ∃ x, σ[j]? = some (some (.int x)) ∧ Q (.int (x + (if b.val k then 1 else 0))) H
def chkHv (nm : Nms) (N : List Str) (sc : Scope) (n : Str) (i : Nat) : HV → Expr → Bool
  | .non, .Constant .none _ _ => true
  | .tup es, .Tuple xs _ _ => chkEls nm sc n es xs && decide (es.length ≤ 100)
  | .plus j b, .BinOp (.Name x _) .Add (.Call (.Name f _) [y] [] _) _ => slotOk N sc j x && decide (f = "int") && globOk sc f && plainR y && chkB nm sc n b y && decide (j ≠ i)
  | _, _ => false
theorem hv_ok (g : Good nm G fe xa Wx X) (T : TryK nm xa X.K X.mg) {k : Nat} (hk : k ∈ nm.xs) {a : Addr} {oe : Obj} {pn : List (Addr × Obj)} (hz : Zc (.ref (xa (nm.x k))) none oe) (hf : ∃ vs, oe.data = .fields vs) {n : Str} {i : Nat} (hi : slotOk X.N X.env.scope i n = true)
    {hv : HV} {x : Expr} (h : chkHv nm X.N X.env.scope n i hv x = true) : PE (X.suite a ((a, oe) :: pn)) x (tHv k i a hv) := by
  unfold chkHv at h
  split at h
  · exact pe_non.weak fun σ H Q q => q
  · simp only [Bool.and_eq_true, decide_eq_true_eq] at h
    refine (pe_tupP (els_ok g T hk hz hf hi h.1)).weak fun σ H Q q => ?_
    exact ⟨q.1, by rw [List.length_map, sizeLine_eq]; omega, q.2⟩
  · simp only [Bool.and_eq_true, decide_eq_true_eq] at h
    obtain ⟨⟨⟨⟨⟨h1, rfl⟩, h3⟩, h4⟩, h5⟩, h6⟩ := h
    obtain ⟨v1, v2, v3, v4⟩ := slot_vis h1
    obtain ⟨g1, g2⟩ := glob_vis h3
    refine (pe_add (pe_var (X := X.suite a ((a, oe) :: pn)) v1 v2 v3 v4) (pe_callTy (X := X.suite a ((a, oe) :: pn)) call_int1 g1 (show X.mg "int" = none from bt_names (by simp [bltNames]) g) (by decide +kernel) (pa_cons (hb_ok g T hk hz hf hi _ _ h5) pa_nil (star_one h4 _ _)) (by decide) g2 (star_one h4 _ _) rfl)).weak fun σ H Q q => ?_
    obtain ⟨q1, x, q2, q3⟩ := q
    exact ⟨_, q2, q1, .inr ⟨_, rfl, _, _, rfl, rfl, q3⟩⟩
  · cases h
section
variable {L : Nat → Option Addr} {K : PySem.W.Frag} {W : Str → St → Hp → Prop} {F0 H0 F H : Hp} {σ : St} {ρ : Env}
theorem at_clr {i j : Nat} {t : Sl} (h : (ρ.put i none).at j = some t) : j ≠ i ∧ ρ.at j = some t := by
  by_cases hj : j = i
  · subst hj
    by_cases hl : j < ρ.length
    · rw [Env.at_put_self hl] at h; cases h
    · rw [Env.at_ge (by rw [Env.put_length]; omega)] at h; cases h
  · rw [Env.at_put_ne hj] at h
    exact ⟨hj, h⟩
theorem Sok.setN (s : Sok L K F0 H0 F H σ ρ) {i : Nat} (hn : ρ.at i = none) (x : Option V) : Sok L K F0 H0 F H (σ.set i x) ρ := by
  have ne : ∀ {j t}, ρ.at j = some t → i ≠ j := fun h z => by rw [← z, hn] at h; cases h
  refine ⟨⟨by rw [List.length_set]; exact s.st.len, s.st.tab, fun j t h => ?_⟩, s.ext, fun j t p h hm hs => ?_, fun j k t u p hjk h1 m1 h2 m2 h3 => ?_, fun j d' h => ?_⟩
  · rw [List.getElem?_set_ne (ne h)]; exact s.st.ok j t h
  · rw [List.getElem?_set_ne (ne h)] at hs; exact s.own j t p h hm hs
  · rw [List.getElem?_set_ne (ne h1)] at h3
    rw [List.getElem?_set_ne (ne h2)]
    exact s.dis j k t u p hjk h1 m1 h2 m2 h3
  · rw [List.getElem?_set_ne (ne h)]; exact s.lk j d' h
theorem Sok.wipe1 (s : Sok L K F0 H0 F H σ ρ) (i : Nat) : Sok L K F0 H0 F H σ (ρ.put i none) :=
  ⟨⟨by rw [Env.put_length]; exact s.st.len, s.st.tab, fun j t h => s.st.ok j t (at_clr h).2⟩, s.ext, fun j t p h hm hs => s.own j t p (at_clr h).2 hm hs, fun j k t u p hjk h1 m1 h2 m2 h3 => s.dis j k t u p hjk (at_clr h1).2 m1 (at_clr h2).2 m2 h3, fun j d' h => s.lk j d' (at_clr h).2⟩
theorem at_none {i : Nat} : (ρ.put i none).at i = none := by
  cases h : (ρ.put i none).at i with
  | none => rfl
  | some t => exact ((at_clr h).1 rfl).elim
theorem asg_step {ec : Nat → Str} (s : Sok L K F0 H0 F H σ ρ) {e : E} {i : Nat} {D : Ends} (q : Aft L K W F0 H0 D (exec G fe ec (.asg (.nm i) e) ρ)) : tAsg (tX K G fe W e) (gName i) D σ H := by
  refine ev_step s (show Aft L _ _ F0 H0 D ((evalE G fe e ρ).bind _) from q) fun d q2 F2 H1 v s2 rx hn => ?_
  show D.nx (σ.set i (some v)) H1
  by_cases hf : (fresh e && isCont d) = true
  · rw [if_pos hf] at q2
    simp only [Bool.and_eq_true] at hf
    rw [hf.1] at rx
    cases d with
    | list ds =>
      obtain ⟨p, vs, rfl, h0, h1, h2, r⟩ := rx
      obtain ⟨n1, n2⟩ := hn p h0
      exact q2 _ F2 H1 (s2.putOwn i ⟨p, vs, rfl, h2, r, .inl h1⟩ h1 n1 n2)
    | dict ds =>
      obtain ⟨p, vs, rfl, h0, h1, h2, r⟩ := rx
      obtain ⟨n1, n2⟩ := hn p h0
      exact q2 _ F2 H1 (s2.putOwn i ⟨p, vs, rfl, h2, r, .inl h1⟩ h1 n1 n2)
    | _ => cases hf.2
  · rw [if_neg hf] at q2
    have r : Rep K F2 v d := by
      cases hfe : fresh e with
      | false => rw [hfe] at rx; cases d <;> exact rx
      | true =>
        rw [hfe] at rx hf
        cases d with
        | list ds => exact (hf rfl).elim
        | dict ds => exact (hf rfl).elim
        | _ => exact rx
    exact q2 _ F2 H1 (s2.put i r)
theorem reps_els {k : Nat} (n : Str) (sc : Scope) : ∀ {es : List (Sum Str HB)} {xs : List Expr}, chkEls nm sc n es xs = true → Reps K F (es.map (eltV k)) (es.map (HV.elt k))
  | [], [], _ => .nil
  | e :: es, x :: xs, h => by
    unfold chkEls at h
    simp only [Bool.and_eq_true] at h
    refine .cons ?_ (reps_els n sc h.2)
    cases e with
    | inl s =>
      have h1 := h.1
      unfold chkEl at h1
      split at h1
      all_goals first | (cases h1; done) | (rename_i heq; cases heq)
      · simp only [Bool.and_eq_true, decide_eq_true_eq] at h1
        have z := h1.2
        unfold strOkB at z
        simp only [Bool.and_eq_true, decide_eq_true_eq] at z
        exact .str ⟨z.1, z.2⟩
    | inr b => exact .bl _
  | [], _ :: _, h => by unfold chkEls at h; cases h
  | _ :: _, [], h => by unfold chkEls at h; cases h
/-- what the clause stores, from the state that the exception left -/
theorem hv_step {k i ht : Nat} {n : Str} {N : List Str} {sc : Scope} {a : Addr} {hv : HV} {x : Expr} {D : Ends} {d : PyData} (hne : i ≠ ht) (s : Sok L K F0 H0 F H σ ρ) (hl : i < ρ.length) (hc : chkHv nm N sc n i hv x = true) (hd : hv.val k ρ = .ok d) (q0 : ∀ σ' F' H', Sok L K F0 H0 F' H' σ' ((ρ.put i none).put ht (some (.dat d))) → D.nx σ' H') :
    tAsg (tHv k i a hv) (gName ht) { nx := fun σ' H' => D.nx (σ'.set i none) H', rt := D.rt, bk := fun σ' H' => D.bk (σ'.set i none) H', ct := fun σ' H' => D.ct (σ'.set i none) H' } (σ.set i (some (.ref a))) H := by
  have hl' : i < σ.length := by rw [← s.st.len]; exact hl
  have q : ∀ σ' F' H', Sok L K F0 H0 F' H' σ' ((ρ.put i none).put ht (some (.dat d))) → D.nx (σ'.set i none) H' := fun σ' F' H' s' => q0 _ F' H' (s'.setN (by rw [Env.at_put_ne hne]; exact at_none) none)
  have at_i : (σ.set i (some (V.ref a)))[i]? = some (some (.ref a)) := by rw [List.getElem?_set_self hl']
  have s1 : Sok L K F0 H0 F H (σ.set i (some (.ref a))) (ρ.put i none) := (s.wipe1 i).setN at_none _
  unfold tAsg gName
  cases hv with
  | non =>
    cases hd
    exact q _ F H (s1.put ht .non)
  | tup es =>
    cases hd
    refine ⟨at_i, fun p o ho hp => ?_⟩
    unfold chkHv at hc
    split at hc
    all_goals first | (cases hc; done) | (rename_i heq; cases heq)
    · simp only [Bool.and_eq_true] at hc
      have e2 : Ext Nil F H (upd F p (TupO o (es.map (eltV k)))) (upd H p (TupO o (es.map (eltV k)))) := Ext.laidF s1.inn hp rfl
      exact q _ _ _ ((s1.step e2).put ht (.tup (TupP.new ho) (reps_els n sc hc.1)))
  | plus j b =>
    unfold HV.val at hd
    dsimp only at hd
    split at hd
    · rename_i y hy
      cases hd
      obtain ⟨v, hv, sl⟩ := s.st.ok j _ hy
      have sl : Rep K F v (.int y) := sl
      cases sl
      have hji : j ≠ i := by
        unfold chkHv at hc
        split at hc
        all_goals first | (cases hc; done) | (rename_i heq; cases heq)
        · simp only [Bool.and_eq_true, decide_eq_true_eq] at hc
          exact hc.2
      exact ⟨at_i, y, by rw [List.getElem?_set_ne (Ne.symm hji)]; exact hv, q _ F H (s1.put ht (.int _))⟩
    · cases hd
end
section
variable (nm : Nms) (N : List Str) (sc : Scope)
def locB (x : Str) : Bool := decide (sc.names.lookup x = some .local) || decide (sc.names.lookup x = some .cell)
def chkBody (t : Option Nat) (e : E) : Stmt → Bool
  | .Assign [.Name x _] v _ => (match t with
    | some i => decide (N[i]? = some x) && locB sc x && noComp v && chkE nm N sc e v
    | none => false)
  | .Expr y _ => (match t with
    | none => noComp y && !isLc y && chkE nm N sc e y
    | some _ => false)
  | _ => false
def chkHn (n : Option Nat) (nn : Option Str) (ht : Nat) (hv : HV) (hx : Expr) : Bool := match n, nn with
  | some i, some m => slotOk N sc i m && decide (sc.names.lookup m = some .local) && decide (i ≠ ht) && chkHv nm N sc m i hv hx
  | none, none => (match hv, hx with
    | .non, .Constant .none _ _ => true
    | _, _ => false)
  | _, _ => false
def chkTry (t : Option Nat) (e : E) (n : Option Nat) (ht : Nat) (hv : HV) (cs : List Nat) : Stmt → Bool
  | .Try [b] [.ExceptHandler (some (.Name x _)) nn [.Assign [.Name z _] hx _] _] [] [] _ => decide (x = "FaceError") && globOk sc x && nm.tr && cs.all (fun c => nm.xs.contains c) && decide (N[ht]? = some z) && locB sc z && noComp hx && !isLc hx && chkBody nm N sc t e b && chkHn nm N sc n nn ht hv hx
  | _ => false
end
theorem loc_b {x : Str} (hfn : ∀ x, X.fn x = true) (h : locB X.env.scope x = true) : X.env.scope.names.lookup x = some .local ∨ X.env.scope.names.lookup x = some .cell ∧ X.fn x = true := by
  unfold locB at h
  simp only [Bool.or_eq_true, decide_eq_true_eq] at h
  exact h.imp id fun z => ⟨z, hfn x⟩
def tBody (K : PySem.W.Frag) (G : Nat → Option D) (fe : Nat → List D → Res D) (W : Str → St → Hp → Prop) (t : Option Nat) (e : E) : TS := match t with
  | some i => tAsg (tX K G fe W e) (gName i)
  | none => tDrop (tE K G fe W e)
theorem Good.tr (g : Good nm G fe xa Wx X) {W : WX} {pn : List (Addr × Obj)} {xe : Value → Shared → Prop} (tk : Takes (X.tr pn xe) W) (own : PassesOwn (model X.prog X.w) X.A X.env xe) : Good nm G fe xa W (X.tr pn xe) :=
  ⟨g.nd, g.calm, g.hu, g.free, g.glob, g.fns, g.tups, g.dp, g.lam, g.exs, tk, own⟩
theorem body_ok (g : Good nm G fe xa Wx X) (hk : X.env.scope.kind = .function) (hfn : ∀ x, X.fn x = true) {t : Option Nat} {e : E} {b : Stmt} (h : chkBody nm X.N X.env.scope t e b = true) : PS X b (tBody X.K G fe (wOf xa Wx) t e) := by
  unfold chkBody at h
  split at h
  · cases t with
    | none => cases h
    | some i =>
      simp only [Bool.and_eq_true, decide_eq_true_eq] at h
      obtain ⟨⟨⟨h1, h2⟩, h3⟩, h4⟩ := h
      exact a_name g hk h1 (loc_b hfn h2) h3 h4
  · cases t with
    | some i => cases h
    | none =>
      simp only [Bool.and_eq_true, Bool.not_eq_true'] at h
      exact ps_expr ((sound e).ee g _ h.2) (sw_no h.1.1 h.1.2 _ _ _)
  · cases h
theorem body_step {L : Nat → Option Addr} {K : PySem.W.Frag} {W W' : Str → St → Hp → Prop} {F0 H0 F H : Hp} {σ : St} {ρ : Env} (s : Sok L K F0 H0 F H σ ρ) {t : Option Nat} {e : E} {n : Option Nat} {ht : Nat} {hv : HV} {cs : List Nat} {D : Ends}
    (q : Aft L K W F0 H0 D (exec G fe ec (.try1 t e n ht hv cs) ρ))
    (hx : ∀ c k d, evalE G fe e ρ = .exc c → k ∈ cs → ec k = c → nOk n ρ = true → hv.val k (frzE ρ (esc e)) = .ok d → (∀ σ' F' H', Sok L K F0 H0 F' H' σ' ((clr n (frzE ρ (esc e))).put ht (some (.dat d))) → D.nx σ' H') → ∀ F2 H2, Sok L K F0 H0 F2 H2 σ (frzE ρ (esc e)) → W' c σ H2) : tBody K G fe W' t e D σ H := by
  unfold exec at q
  cases he : evalE G fe e ρ with
  | bad => rw [he] at q; exact q.elim
  | ok d =>
    rw [he] at q
    cases t with
    | some i =>
      refine asg_step (ec := ec) s ?_
      have z : exec G fe ec (.asg (.nm i) e) ρ = (evalE G fe e ρ).bind fun d => .ok (.next ((frzE ρ (esc e)).put i (some (if (fresh e && isCont d) = true then .own d else .dat d)))) := by unfold exec; rfl
      rw [z, he]
      exact q
    | none =>
      refine ev_stepE (f := fun _ => .ok (.next (frzE ρ (esc e)))) (D' := D) s ?_ fun d q2 F2 H1 v _ s2 r => q2 σ F2 H1 s2
      rw [he]
      exact q
  | exc c =>
    rw [he] at q
    dsimp only at q
    cases hf : cs.find? fun k => decide (ec k = c) with
    | none => rw [hf] at q; exact q.elim
    | some k =>
      rw [hf] at q
      dsimp only at q
      split at q
      · rename_i hn
        cases hd : hv.val k (frzE ρ (esc e)) with
        | bad => rw [hd] at q; exact q.elim
        | exc c' => unfold HV.val at hd; split at hd <;> first | cases hd | (split at hd <;> cases hd)
        | ok d =>
          rw [hd] at q
          have hk : k ∈ cs := List.mem_of_find?_eq_some hf
          have hc : ec k = c := by have := List.find?_some hf; simpa using this
          have fin : ∀ F' H', Ext (EscA σ ρ (esc e)) F H F' H' → W' c σ H' := fun F' H' e1 => by
            obtain ⟨F2, s2, _, _, _⟩ := s.frz e1
            exact hx c k d he hk hc hn hd q F2 H' s2
          cases t with
          | some i => exact ⟨F, ρ, s.inn, s.st, by rw [he]; exact fin⟩
          | none => exact ⟨F, ρ, s.inn, s.st, by rw [he]; exact fin⟩
      · exact q.elim
theorem r_try (g : Good nm G fe xa Wx X) (hs : X.stack = X.env :: X.outer) (hf : X.env.frame = some X.env.locals) (hk : X.env.scope.kind = .function) (hfn : X.fn = fun _ => true) (hec : ∀ c ∈ nm.xs, ec c = nm.x c) (T : nm.tr = true → TryK nm xa X.K X.mg)
    {t : Option Nat} {e : E} {n : Option Nat} {ht : Nat} {hv : HV} {cs : List Nat} {st : Stmt} (h : chkTry nm X.N X.env.scope t e n ht hv cs st = true) : PS X st (tS X.K G fe (wOf xa Wx) ec (.try1 t e n ht hv cs)) := by
  have hfn' : ∀ x, X.fn x = true := fun x => by rw [hfn]
  unfold chkTry at h
  split at h
  · rename_i b x xp nn z zp hx hp hpos tpos
    simp only [Bool.and_eq_true, decide_eq_true_eq, Bool.not_eq_true', List.all_eq_true, List.contains_iff_mem] at h
    obtain ⟨⟨⟨⟨⟨⟨⟨⟨⟨rfl, h1⟩, h2⟩, h3⟩, h4⟩, h5⟩, h6⟩, h7⟩, h8⟩, h9⟩ := h
    have T := T h2
    obtain ⟨g1, g2⟩ := glob_vis h1
    have hz := loc_b hfn' h5
    have hzl : Loc X.env.scope z := hz.imp id (·.1)
    have hzf : X.fn z = true ∨ X.env.scope.names.lookup z = some .local := .inl (hfn' z)
    have nms : Names X "FaceError" (.ref (xa "FaceError")) := ⟨g1, g2, .inl T.fe⟩
    unfold chkHn at h9
    cases n with
    | some i =>
      cases nn with
      | none => cases h9
      | some m =>
        simp only [Bool.and_eq_true, decide_eq_true_eq] at h9
        obtain ⟨⟨⟨i1, i2⟩, i3⟩, i4⟩ := h9
        obtain ⟨v1, v2, v3, v4⟩ := slot_vis i1
        refine (ps_try_as (X := X) (i := i) (Wout := Wx) (tb := fun W => tBody X.K G fe (wOf xa W) t e) (ts := fun a cls d D σ H => ∃ k ∈ nm.xs, cls = .ref (xa (nm.x k)) ∧ d = none ∧ tAsg (tHv k i a hv) (gName ht) D σ H) hs hf g.nd v1 i2 nms g.tk (fun W pn xe tk own => pss_one (body_ok (g.tr tk own) hk hfn' h8)) (fun a oe cls d pn hzc hfl => ⟨fun pins s σ H D I q => ?_⟩)).weak fun D σ H q => ?_
        · obtain ⟨k, hkx, e1, e2, q⟩ := q
          subst e1 e2
          exact (pss_one (ps_set (X := X.suite a ((a, oe) :: pn)) g.nd h4 hzl (hv_ok g T hkx hzc hfl i1 i4) (sw_no h6 h7 _ _ _) hzf)).run pins s σ H D I q
        · obtain ⟨L, F0, H0, F, ρ, s, q⟩ := q
          refine body_step s q fun c k d he hkc hc hn hd q2 F2 H2 s2 => ?_
          have hkx := h3 k hkc
          have hl : i < (frzE ρ (esc e)).length := by rw [frzE_length]; simpa [nOk] using hn
          refine ⟨true, ?_, fun _ a ha => ⟨k, hkx, ?_, rfl, hv_step i3 s2 hl i4 hd q2⟩, fun z => (by cases z)⟩
          · rw [← hc, hec k hkx]; exact T.em k hkx
          · rw [← hc, hec k hkx]
    | none =>
      cases nn with
      | some m => cases h9
      | none =>
        dsimp only at h9
        split at h9
        · refine (ps_try_only (X := X) (Wout := Wx) (tb := fun W => tBody X.K G fe (wOf xa W) t e) (ts := fun a cls d D σ H => tAsg (L2.tC V.non) (gName ht) D σ H) hs hf nms g.tk (fun W pn xe tk own => pss_one (body_ok (g.tr tk own) hk hfn' h8)) (fun a oe cls d pn hzc hfl => pss_one (ps_set (X := X.suite a ((a, oe) :: pn)) g.nd h4 hzl pe_non (sw_no h6 h7 _ _ _) hzf))).weak fun D σ H q => ?_
          obtain ⟨L, F0, H0, F, ρ, s, q⟩ := q
          refine body_step s q fun c k d he hkc hc hn hd q2 F2 H2 s2 => ?_
          have hkx := h3 k hkc
          refine ⟨true, ?_, fun _ a ha => ?_, fun z => (by cases z)⟩
          · rw [← hc, hec k hkx]; exact T.em k hkx
          · cases hd
            exact q2 _ F2 H2 (s2.put ht .non)
        · cases h9
  · cases h
end
end G7

namespace G7
open L2 PyProof.Rows PySem.Spec PySem
/-! ### the text's statements and the small language's -/
section
variable (nm : Nms) (N : List Str) (sc : Scope)
def locOk (x : Str) : Bool := decide (sc.names.lookup x = some .local) || decide (sc.names.lookup x = some .cell)
def chkNm (i : Nat) (e : E) : Stmt → Bool
  | .Assign [.Name x _] v _ => decide (N[i]? = some x) && locOk sc x && noComp v && chkE nm N sc e v
  | _ => false
def chkTp (t : Tg) (e : E) : Stmt → Bool
  | .Assign [.Tuple es kk p] v _ => !isTup v && chkTg N sc (fun _ => true) t (.Tuple es kk p) && chkE nm N sc e v
  | _ => false
def par2 (i j : Nat) (a b : E) : Stmt → Bool
  | .Assign [.Tuple [.Name x px, .Name y py] _ _] (.Tuple [u, v] _ _) _ => decide (N[i]? = some x) && decide (N[j]? = some y) && decide (i ≠ j) && decide (sc.names.lookup x = some .local) && decide (sc.names.lookup y = some .local) && decide (x ≠ y) && (py.line == px.line) && plainR u && plainR v && !([u, v].all (foldedForSure 8)) && !([u, v].all (constantsAlone 8)) && chkE nm N sc a u && chkE nm N sc b v
  | _ => false
def par3 (i j l : Nat) (a b c : E) : Stmt → Bool
  | .Assign [.Tuple [.Name x px, .Name y py, .Name z pz] _ _] (.Tuple [u, v, w] _ _) _ => decide (N[i]? = some x) && decide (N[j]? = some y) && decide (N[l]? = some z) && decide (i ≠ j) && decide (i ≠ l) && decide (j ≠ l) && decide (sc.names.lookup x = some .local) && decide (sc.names.lookup y = some .local) && decide (sc.names.lookup z = some .local) && decide (x ≠ y) && decide (x ≠ z) && decide (y ≠ z) && (py.line == px.line) && (pz.line == px.line) && plainR u && plainR v && plainR w && !([u, v, w].all (foldedForSure 8)) && !([u, v, w].all (constantsAlone 8)) && chkE nm N sc a u && chkE nm N sc b v && chkE nm N sc c w
  | _ => false
def chkAsg : Tg → E → Stmt → Bool
  | .nm i, e, st => chkNm nm N sc i e st
  | .tp (.cons (.nm i) (.cons (.nm j) .nil)), .tup (.cons a (.cons b .nil)), st => par2 nm N sc i j a b st
  | .tp (.cons (.nm i) (.cons (.nm j) (.cons (.nm l) .nil))), .tup (.cons a (.cons b (.cons c .nil))), st => par3 nm N sc i j l a b c st
  | .tp ts, e, st => chkTp nm N sc (.tp ts) e st
  | _, _, _ => false
def chkMeth (i : Nat) (e : E) (m : Str) : Stmt → Bool
  | .Expr (.Call (.Attribute (.Name x _) n ap) [y] [] cp) _ => decide (n = m) && slotOk N sc i x && plainR y && (ap.endLine == cp.line) && chkE nm N sc e y
  | _ => false
def chkPut (i : Nat) (k v : E) : Stmt → Bool
  | .Assign [.Subscript (.Name x _) y _] z _ => slotOk N sc i x && chkE nm N sc k y && chkE nm N sc v z
  | _ => false
def chkRaise (c : Nat) : Stmt → Bool
  | .Raise (some (.Call (.Name x _) [.Constant (.str _) _ _] [] _)) none _ => decide (x = nm.x c) && globOk sc x && nm.xs.contains c
  | _ => false
def chkPop (t i : Nat) : Stmt → Bool
  | .Assign [.Name z _] (.Call (.Attribute (.Name x _) m ap) [.Constant (.int 0) _ _] [] cp) _ => decide (N[t]? = some z) && locOk sc z && decide (m = "pop") && slotOk N sc i x && (ap.endLine == cp.line)
  | _ => false
mutual
def chkS : S → Stmt → Bool
  | .asg t e, st => chkAsg nm N sc t e st
  | .ret e, st => (match st with
    | .Return (some x) _ => chkE nm N sc e x
    | _ => false)
  | .retN, st => (match st with
    | .Return none _ => true
    | _ => false)
  | .ifs c a b, st => (match st with
    | .If x p q _ => plainR x && chkE nm N sc c x && chkSs a p && chkSs b q
    | _ => false)
  | .for_ t it body, st => (match st with
    | .For tg iter bd [] _ => chkI nm N sc tg it iter && plainR iter && chkTg N sc (fun _ => true) t tg && chkSs body bd
    | _ => false)
  | .whl c body, st => (match st with
    | .While x bd [] _ => plainR x && chkE nm N sc c x && chkSs body bd
    | _ => false)
  | .app i e, st => chkMeth nm N sc i e "append" st
  | .ext i e, st => chkMeth nm N sc i e "extend" st
  | .dput i k v, st => chkPut nm N sc i k v st
  | .dupd i e, st => chkMeth nm N sc i e "update" st
  | .lock _ b, st => chkS b st
  | .raise c, st => chkRaise nm sc c st
  | .expr e, st => (match st with
    | .Expr y _ => noComp y && !isLc y && chkE nm N sc e y
    | _ => false)
  | .pop0 t i, st => chkPop N sc t i st
  | .try1 t e n ht hv cs, st => chkTry nm N sc t e n ht hv cs st
  | .pass, st => (match st with
    | .Pass _ => true
    | _ => false)
  | .cont, st => (match st with
    | .Continue _ => true
    | _ => false)
  | .brk, st => (match st with
    | .Break _ => true
    | _ => false)
  | .never, _ => true
  | _, _ => false
def chkSs : S → List Stmt → Bool
  | .nil, sts => sts.isEmpty
  | .cons a b, sts => (match sts with
    | st :: r => chkS a st && chkSs b r
    | [] => false)
  | _, _ => false
end
end
variable {nm : Nms} {G : Nat → Option D} {fe : Nat → List D → Res D} {xa : Str → Addr} {ec : Nat → Str} {L : Nat → Option Addr}
section
variable {X : Cx} {Wx : WX}
theorem loc_ok {x : Str} (hfn : ∀ x, X.fn x = true) (h : locOk X.env.scope x = true) : X.env.scope.names.lookup x = some .local ∨ X.env.scope.names.lookup x = some .cell ∧ X.fn x = true := by
  unfold locOk at h
  simp only [Bool.or_eq_true, decide_eq_true_eq] at h
  exact h.imp id fun z => ⟨z, hfn x⟩
theorem chk_nm (g : Good nm G fe xa Wx X) (hk : X.env.scope.kind = .function) (hfn : ∀ x, X.fn x = true) {i : Nat} {e : E} {st : Stmt} (h : chkNm nm X.N X.env.scope i e st = true) : PS X st (tS X.K G fe (wOf xa Wx) ec (.asg (.nm i) e)) := by
  unfold chkNm at h
  split at h
  · simp only [Bool.and_eq_true, decide_eq_true_eq] at h
    obtain ⟨⟨⟨h1, h2⟩, h3⟩, h4⟩ := h
    exact r_set (a_name g hk h1 (loc_ok hfn h2) h3 h4)
  · cases h
theorem chk_tp (g : Good nm G fe xa Wx X) (hfn : X.fn = fun _ => true) {ts : Tg} {e : E} {st : Stmt} (h : chkTp nm X.N X.env.scope (.tp ts) e st = true) : PS X st (tS X.K G fe (wOf xa Wx) ec (.asg (.tp ts) e)) := by
  unfold chkTp at h
  split at h
  · rename_i es kk p v pos
    simp only [Bool.and_eq_true, Bool.not_eq_true'] at h
    obtain ⟨⟨h1, h2⟩, h3⟩ := h
    refine r_asg (fun i z => by cases z) ?_
    exact ps_asg ((sound e).ee g v h3) (soundG g.nd g.calm (.tp ts) _ (by rw [hfn]; exact h2)) (sw_tup (v := v) es kk p pos.line X.env) (st_no h1 _) rfl
  · cases h
theorem chk_par2 (g : Good nm G fe xa Wx X) (hk : X.env.scope.kind = .function) {i j : Nat} {a b : E} {st : Stmt} (h : par2 nm X.N X.env.scope i j a b st = true) : PS X st (tS X.K G fe (wOf xa Wx) ec (.asg (.tp (.cons (.nm i) (.cons (.nm j) .nil))) (.tup (.cons a (.cons b .nil))))) := by
  unfold par2 at h
  split at h
  · rename_i x px y py _ _ u v _ _ _
    simp only [Bool.and_eq_true, decide_eq_true_eq, Bool.not_eq_true'] at h
    obtain ⟨⟨⟨⟨⟨⟨⟨⟨⟨⟨⟨⟨h1, h2⟩, h3⟩, h4⟩, h5⟩, h6⟩, h7⟩, h8⟩, h9⟩, h10⟩, h11⟩, h12⟩, h13⟩ := h
    exact r_par (ps_par g.calm g.nd h1 h2 h3 h4 h5 (a_cons (plainA_of h8) ((sound a).ee g u h12) (a_cons (plainA_of h9) ((sound b).ee g v h13) a_nil)) (st_par2 hk h4 h5 h6 h7 h8 h9 h10 h11))
  · cases h
theorem chk_par3 (g : Good nm G fe xa Wx X) (hk : X.env.scope.kind = .function) {i j l : Nat} {a b c : E} {st : Stmt} (h : par3 nm X.N X.env.scope i j l a b c st = true) : PS X st (tS X.K G fe (wOf xa Wx) ec (.asg (.tp (.cons (.nm i) (.cons (.nm j) (.cons (.nm l) .nil)))) (.tup (.cons a (.cons b (.cons c .nil)))))) := by
  unfold par3 at h
  split at h
  · rename_i x px y py z pz _ _ u v w _ _ _
    simp only [Bool.and_eq_true, decide_eq_true_eq, Bool.not_eq_true'] at h
    obtain ⟨⟨⟨⟨⟨⟨⟨⟨⟨⟨⟨⟨⟨⟨⟨⟨⟨⟨⟨⟨⟨h1, h2⟩, h3⟩, i1⟩, i2⟩, i3⟩, l1⟩, l2⟩, l3⟩, n1⟩, n2⟩, n3⟩, p1⟩, p2⟩, r1⟩, r2⟩, r3⟩, f1⟩, f2⟩, c1⟩, c2⟩, c3⟩ := h
    exact r_par3 (ps_par3 g.calm g.nd h1 h2 h3 i1 i2 i3 l1 l2 l3 (a_cons (plainA_of r1) ((sound a).ee g u c1) (a_cons (plainA_of r2) ((sound b).ee g v c2) (a_cons (plainA_of r3) ((sound c).ee g w c3) a_nil))) (st_par3 hk l1 l2 l3 n1 n2 n3 p1 p2 r1 r2 r3 f1 f2))
  · cases h
theorem chk_asg (g : Good nm G fe xa Wx X) (hk : X.env.scope.kind = .function) (hfn : X.fn = fun _ => true) {t : Tg} {e : E} {st : Stmt} (h : chkAsg nm X.N X.env.scope t e st = true) : PS X st (tS X.K G fe (wOf xa Wx) ec (.asg t e)) := by
  unfold chkAsg at h
  split at h
  · exact chk_nm g hk (fun x => by rw [hfn]) h
  · exact chk_par2 g hk h
  · exact chk_par3 g hk h
  · exact chk_tp g hfn h
  · cases h
theorem chk_app (g : Good nm G fe xa Wx X) {i : Nat} {e : E} {st : Stmt} (h : chkMeth nm X.N X.env.scope i e "append" st = true) : PS X st (tS X.K G fe (wOf xa Wx) ec (.app i e)) := by
  unfold chkMeth at h
  split at h
  · simp only [Bool.and_eq_true, decide_eq_true_eq] at h
    obtain ⟨⟨⟨⟨h1, h2⟩, h3⟩, h4⟩, h5⟩ := h
    subst h1
    exact r_app g h2 h3 h4 ((sound e).ee g _ h5)
  · cases h
theorem chk_ext (g : Good nm G fe xa Wx X) {i : Nat} {e : E} {st : Stmt} (h : chkMeth nm X.N X.env.scope i e "extend" st = true) : PS X st (tS X.K G fe (wOf xa Wx) ec (.ext i e)) := by
  unfold chkMeth at h
  split at h
  · simp only [Bool.and_eq_true, decide_eq_true_eq] at h
    obtain ⟨⟨⟨⟨h1, h2⟩, h3⟩, h4⟩, h5⟩ := h
    subst h1
    exact r_ext g h2 h3 h4 ((sound e).eb g _ h5)
  · cases h
theorem chk_put (g : Good nm G fe xa Wx X) {i : Nat} {k v : E} {st : Stmt} (h : chkPut nm X.N X.env.scope i k v st = true) : PS X st (tS X.K G fe (wOf xa Wx) ec (.dput i k v)) := by
  unfold chkPut at h
  split at h
  · simp only [Bool.and_eq_true] at h
    exact r_dput g h.1.1 ((sound k).ee g _ h.1.2) ((sound v).ee g _ h.2)
  · cases h
theorem chk_dupd (g : Good nm G fe xa Wx X) {i : Nat} {e : E} {st : Stmt} (h : chkMeth nm X.N X.env.scope i e "update" st = true) : PS X st (tS X.K G fe (wOf xa Wx) ec (.dupd i e)) := by
  unfold chkMeth at h
  split at h
  · simp only [Bool.and_eq_true, decide_eq_true_eq] at h
    obtain ⟨⟨⟨⟨h1, h2⟩, h3⟩, h4⟩, h5⟩ := h
    subst h1
    exact r_dupd g h2 h3 h4 ((sound e).ee g _ h5)
  · cases h
theorem chk_raise (g : Good nm G fe xa Wx X) (hec : ∀ c ∈ nm.xs, ec c = nm.x c) {c : Nat} {st : Stmt} (h : chkRaise nm X.env.scope c st = true) : PS X st (tS X.K G fe (wOf xa Wx) ec (.raise c)) := by
  unfold chkRaise at h
  split at h
  · simp only [Bool.and_eq_true, decide_eq_true_eq, List.contains_iff_mem] at h
    obtain ⟨⟨h1, h2⟩, h3⟩ := h
    exact r_raise g h3 (hec c h3) h1 h2
  · cases h
theorem chk_pop (g : Good nm G fe xa Wx X) (hfn : ∀ x, X.fn x = true) {t i : Nat} {st : Stmt} (h : chkPop X.N X.env.scope t i st = true) : PS X st (tS X.K G fe (wOf xa Wx) ec (.pop0 t i)) := by
  unfold chkPop at h
  split at h
  · simp only [Bool.and_eq_true, decide_eq_true_eq] at h
    obtain ⟨⟨⟨⟨h1, h2⟩, h3⟩, h4⟩, h5⟩ := h
    subst h3
    exact r_pop0 g h1 (loc_ok hfn h2) h4 h5
  · cases h
theorem soundS (g : Good nm G fe xa Wx X) (hk : X.env.scope.kind = .function) (hfn : X.fn = fun _ => true) (hec : ∀ c ∈ nm.xs, ec c = nm.x c) (hst : X.stack = X.env :: X.outer) (hfr : X.env.frame = some X.env.locals) (T : nm.tr = true → TryK nm xa X.K X.mg) (s : S) :
    (∀ st, chkS nm X.N X.env.scope s st = true → PS X st (tS X.K G fe (wOf xa Wx) ec s)) ∧ (∀ sts, chkSs nm X.N X.env.scope s sts = true → PSs X sts (tS X.K G fe (wOf xa Wx) ec s)) := by
  induction s with
  | nil =>
    refine ⟨fun st h => (by unfold chkS at h; cases h), fun sts h => ?_⟩
    unfold chkSs at h
    cases sts with
    | nil => exact r_nil
    | cons _ _ => cases h
  | cons a b ia ib =>
    refine ⟨fun st h => (by unfold chkS at h; cases h), fun sts h => ?_⟩
    unfold chkSs at h
    cases sts with
    | nil => cases h
    | cons st r =>
      simp only [Bool.and_eq_true] at h
      exact r_cons (ia.1 st h.1) (ib.2 r h.2)
  | asg t e => exact ⟨fun st h => (by unfold chkS at h; exact chk_asg g hk hfn h), fun sts h => (by unfold chkSs at h; cases h)⟩
  | ret e =>
    refine ⟨fun st h => ?_, fun sts h => (by unfold chkSs at h; cases h)⟩
    unfold chkS at h
    split at h
    · exact r_ret ((sound e).ev g _ h)
    · cases h
  | retN =>
    refine ⟨fun st h => ?_, fun sts h => (by unfold chkSs at h; cases h)⟩
    unfold chkS at h
    split at h
    · exact r_retN
    · cases h
  | ifs c a b ia ib =>
    refine ⟨fun st h => ?_, fun sts h => (by unfold chkSs at h; cases h)⟩
    unfold chkS at h
    split at h
    · simp only [Bool.and_eq_true] at h
      obtain ⟨⟨⟨h1, h2⟩, h3⟩, h4⟩ := h
      exact r_if ((sound c).ts g _ h1 h2) (ia.2 _ h3) (ib.2 _ h4)
    · cases h
  | for_ t it body ib =>
    refine ⟨fun st h => ?_, fun sts h => (by unfold chkSs at h; cases h)⟩
    unfold chkS at h
    split at h
    · simp only [Bool.and_eq_true] at h
      obtain ⟨⟨⟨h1, h2⟩, h3⟩, h4⟩ := h
      cases it with
      | itd di =>
        rename_i iter _ _
        cases iter with
        | Name x xp =>
          unfold chkI at h1
          exact r_ford g h1 (soundG g.nd g.calm t _ (by rw [hfn]; exact h3)) (ib.2 _ h4)
        | _ => unfold chkI at h1; cases h1
      | _ => exact r_for g (soundJ g _ (fun i z => by cases z) _ _ h1) (soundG g.nd g.calm t _ (by rw [hfn]; exact h3)) (ib.2 _ h4) h2 (en_tp h1 h3)
    · cases h
  | lock i b ib => exact ⟨fun st h => (by unfold chkS at h; exact r_lock (ib.1 st h)), fun sts h => (by unfold chkSs at h; cases h)⟩
  | whl c body ib =>
    refine ⟨fun st h => ?_, fun sts h => (by unfold chkSs at h; cases h)⟩
    unfold chkS at h
    split at h
    · simp only [Bool.and_eq_true] at h
      obtain ⟨⟨h1, h2⟩, h3⟩ := h
      exact r_whl g ((sound c).ts g _ h1 h2) (ib.2 _ h3)
    · cases h
  | app i e => exact ⟨fun st h => (by unfold chkS at h; exact chk_app g h), fun sts h => (by unfold chkSs at h; cases h)⟩
  | ext i e => exact ⟨fun st h => (by unfold chkS at h; exact chk_ext g h), fun sts h => (by unfold chkSs at h; cases h)⟩
  | dput i k v => exact ⟨fun st h => (by unfold chkS at h; exact chk_put g h), fun sts h => (by unfold chkSs at h; cases h)⟩
  | dupd i e => exact ⟨fun st h => (by unfold chkS at h; exact chk_dupd g h), fun sts h => (by unfold chkSs at h; cases h)⟩
  | pass =>
    refine ⟨fun st h => ?_, fun sts h => (by unfold chkSs at h; cases h)⟩
    unfold chkS at h
    split at h
    · exact r_pass
    · cases h
  | cont =>
    refine ⟨fun st h => ?_, fun sts h => (by unfold chkSs at h; cases h)⟩
    unfold chkS at h
    split at h
    · exact r_cont
    · cases h
  | brk =>
    refine ⟨fun st h => ?_, fun sts h => (by unfold chkSs at h; cases h)⟩
    unfold chkS at h
    split at h
    · exact r_brk
    · cases h
  | raise c => exact ⟨fun st h => (by unfold chkS at h; exact chk_raise g hec h), fun sts h => (by unfold chkSs at h; cases h)⟩
  | expr e =>
    refine ⟨fun st h => ?_, fun sts h => (by unfold chkSs at h; cases h)⟩
    unfold chkS at h
    split at h
    · simp only [Bool.and_eq_true, Bool.not_eq_true'] at h
      exact r_expr h.1.1 h.1.2 ((sound e).ee g _ h.2)
    · cases h
  | pop0 t i => exact ⟨fun st h => (by unfold chkS at h; exact chk_pop g (fun x => by rw [hfn]) h), fun sts h => (by unfold chkSs at h; cases h)⟩
  | try1 t e n ht hv cs => exact ⟨fun st h => (by unfold chkS at h; exact r_try g hst hfr hk hfn hec T h), fun sts h => (by unfold chkSs at h; cases h)⟩
  | never => exact ⟨fun st h => r_never, fun sts h => (by unfold chkSs at h; cases h)⟩
end
end G7

namespace G7
open L2 PyProof.Rows PySem.Spec PySem
/-! ### the defs, all at once, by the fuel -/
/-- a def of the law's text -/
structure LD where
  f : Nat
  d : He.FnD
  ps : List Str
  N : List Str
def scB (N P : List Str) (sc : Scope) : Bool :=
  decide (sc.kind = .function) && !sc.isCoroutine && !sc.isGenerator && decide N.Nodup && decide (N.take P.length = P) && (P.all fun x => decide (sc.names.lookup x = some .local) || decide (sc.names.lookup x = some .cell)) && (sc.names.all fun y => !(y.2 == .free))
theorem scB_ok {N P : List Str} {sc : Scope} (h : scB N P sc = true) : FnScope N P sc := by
  unfold scB at h
  simp only [Bool.and_eq_true, decide_eq_true_eq, Bool.not_eq_true', List.all_eq_true, Bool.or_eq_true] at h
  obtain ⟨⟨⟨⟨⟨⟨h1, h2⟩, h3⟩, h4⟩, h5⟩, h6⟩, h7⟩ := h
  exact ⟨h1, h2, h3, h4, h5, h6, fun y hy e => by have := h7 y hy; rw [e] at this; cases this⟩
def nmOf (nm : Nms) (x : LD) : Nms := { nm with lm := lamNames.contains x.d.name }
def chkFn (nm : Nms) (M : Nat → Option Fn) (x : LD) : Bool := match M x.f with
  | some fn => scB x.N x.ps x.d.scope && decide (x.N.length = fn.n) && decide (x.ps.length = fn.ps) && chkSs (nmOf nm x) x.N x.d.scope fn.body x.d.body && decide (nm.f x.f = x.d.name) && decide (x.d.at_ = (x.d.name, none))
  | none => false
def BindOk (x : LD) : Prop := ∀ (kV doc pm : Value) (an : Option Addr) (cdv ct : Value) (us : List Value), us.length = x.ps.length → bindArgs (PySem.W.fnOf x.d.name x.d.qual x.d.params x.d.body x.d.scope .none kV doc pm an cdv ct) ⟨us, []⟩ = pure (x.ps.zip us)
/-- the object of a def -/
def FnAt (K : PySem.W.Frag) (x : LD) (fd : FuncData) : Prop :=
  ∃ (oc : Value) (od : Option Addr) (osl : Array (Option Value)) (kV doc pm : Value) (an : Option Addr) (cdv ct : Value), fd = PySem.W.fnOf x.d.name x.d.qual x.d.params x.d.body x.d.scope .none kV doc pm an cdv ct ∧ K.lookup (He.fAd K x.d.at_) = some ⟨oc, od, .func fd, osl⟩ ∧ PySem.W.codeIn K cdv x.d.qual = true
section
variable {P : Program} {w : World} {K : PySem.W.Frag} {mg : Str → Option Value} {base : Heap} {nm : Nms} {G : Nat → Option D} {ec : Nat → Str} {M : Nat → Option Fn} {xa : Str → Addr}
theorem start_ok {F H : Hp} {vs : List V} {ds : List D} {N : List Str} {n : Nat} (hn : N.length = n) (tb : TabsK K H) (i : Inn F H) (r : Reps K F vs ds) (hl : ds.length ≤ n) : Sok L K F H F H (L2.start N vs) (initE ds n) := by
  have len := r.length
  have at' : ∀ (ds : List D) (vs : List V), Reps K F vs ds → ∀ (m j : Nat) (s : Sl), Env.at (ds.map (fun d => some (Sl.dat d)) ++ List.replicate m none) j = some s → ∃ d v, s = .dat d ∧ Rep K F v d ∧ ∀ k, (vs.map some ++ List.replicate k none)[j]? = some (some v) := by
    intro ds
    induction ds with
    | nil =>
      intro vs r m j s h
      exfalso
      have : ∀ (m j : Nat), Env.at (List.replicate m none) j = none := by
        intro m
        induction m with
        | zero => intro j; rfl
        | succ m ih => intro j; cases j with
          | zero => rfl
          | succ j => exact ih j
      have h : Env.at (List.replicate m none) j = some s := h
      rw [this] at h
      cases h
    | cons d ds ih =>
      intro vs r m j s h
      cases r with
      | @cons v vs' _ _ r1 rs =>
        cases j with
        | zero => cases h; exact ⟨d, v, rfl, r1, fun k => rfl⟩
        | succ j =>
          obtain ⟨d', v', e, r', hk⟩ := ih vs' rs m j s h
          exact ⟨d', v', e, r', fun k => hk k⟩
  have atd : ∀ {j s}, (initE ds n).at j = some s → ∃ d v, s = .dat d ∧ Rep K F v d ∧ (L2.start N vs)[j]? = some (some v) := by
    intro j s h
    obtain ⟨d, v, e, r', hk⟩ := at' ds vs r _ j s h
    exact ⟨d, v, e, r', hk _⟩
  refine ⟨⟨?_, tb, fun j s h => ?_⟩, Ext.refl i, fun j s p h hm _ => ?_, fun j k s t p _ h hm => ?_, fun j d h => ?_⟩
  · unfold initE L2.start
    simp only [List.length_append, List.length_map, List.length_replicate]
    omega
  · obtain ⟨d, v, rfl, r', e⟩ := atd h
    exact ⟨v, e, r'⟩
  · obtain ⟨d, v, rfl, r', e⟩ := atd h
    exact hm.elim
  · obtain ⟨d, v, rfl, r', e⟩ := atd h
    exact hm.elim
  · obtain ⟨d, v, z, r', e⟩ := atd h
    cases z
theorem tab_code {K : PySem.W.Frag} {cdv : Value} {c P : Addr} (h : (match cdv with
    | .ref c => (match K.lookup c with
      | some ⟨_, _, .fields vs, _⟩ => (match (vs[11]? : Option Value) with
        | some (.ref P) => some (c, P)
        | _ => none)
      | _ => none)
    | _ => none) = some (c, P)) : cdv = .ref c := by
  cases cdv with
  | ref c0 =>
    have h : (match K.lookup c0 with
      | some ⟨_, _, .fields vs, _⟩ => (match (vs[11]? : Option Value) with
        | some (.ref P) => some (c0, P)
        | _ => none)
      | _ => none) = some (c, P) := h
    split at h
    · split at h
      · cases h; rfl
      · cases h
    · cases h
  | _ => cases h
theorem fn_all (L : List LD) (fs : nm.fs = L.map (·.f)) (chk : ∀ x ∈ L, chkFn nm M x = true) (bnd : ∀ x ∈ L, BindOk x) (obj : ∀ x ∈ L, ∃ fd, FnAt K x fd) (kp : ∀ x ∈ L, PySem.W.keepIn K (.ref (He.fAd K x.d.at_)) = true) (glo : ∀ x ∈ L, mg x.d.name = some (.ref (He.fAd K x.d.at_)))
    (free : ∀ x ∈ bltNames, mg x = none) (glob : ∀ g ∈ nm.gs, ∃ d u v, G g = some d ∧ mg (nm.g g) = some u ∧ RelV v u ∧ ∀ F, Rep K F v d) (tups : ∀ g ∈ nm.ts, ∃ (a : Addr) (o : Obj) (ss : List Str), G g = some (.tuple (ss.map .str)) ∧ mg (nm.g g) = some (.ref a) ∧ K.lookup a = some o ∧ o.cls = .type "tuple" ∧ o.dict = none ∧ (∀ F, SqT K F a (ss.map V.str)))
    (hec : ∀ c ∈ nm.xs, ec c = nm.x c) (exs : ∀ c ∈ nm.xs, PySem.W.excIn K (xa (nm.x c)) He.veBase "ValueError.__new__" = true ∧ mg (nm.x c) = some (.ref (xa (nm.x c))) ∧ PySem.W.keepIn K (.ref (xa (nm.x c))) = true ∧ PySem.W.subIn K (.ref (xa (nm.x c))) (.type "BaseException") = some true ∧ PySem.W.typeIn K (.ref (xa (nm.x c))) = some (.type "type"))
    (tryk : nm.tr = true → TryK nm xa K mg)
    (tab : ∀ x ∈ L, lamNames.contains x.d.name = true → ∃ c P, tabCP K x.d.name = some (c, P) ∧ LamX.TabB base mg c P) :
    ∀ n, ∀ x ∈ L, ∃ fd, FnAt K x fd ∧ FnOk P w K mg base (L2.CX P w) n (He.fAd K x.d.at_) fd x.ps (spF K xa x.ps.length (callF G ec M n x.f)) := by
  intro n
  induction n with
  | zero =>
    intro x hx
    obtain ⟨fd, hfd⟩ := obj x hx
    refine ⟨fd, hfd, ⟨fun vs H Q E h => h.1, fun A outer s H args us vs Q E _ _ _ _ h => ?_⟩⟩
    obtain ⟨_, _, F, ds, _, _, h⟩ := h
    exact h.elim
  | succ n ih =>
    intro x hx
    obtain ⟨fd, hfd⟩ := obj x hx
    refine ⟨fd, hfd, ?_⟩
    obtain ⟨oc, od, osl, kV, doc, pm, an, cdv, ct, rfl, lk, hcd⟩ := hfd
    have hc := chk x hx
    unfold chkFn at hc
    cases hM : M x.f with
    | none => rw [hM] at hc; cases hc
    | some fn =>
      rw [hM] at hc
      simp only [Bool.and_eq_true, decide_eq_true_eq] at hc
      obtain ⟨⟨⟨⟨⟨c1, c2⟩, c3⟩, c4⟩, c5⟩, c6⟩ := hc
      have S := scB_ok c1
      refine fn_of lk hcd S (fun vs H Q E h => h.1) fun A outer s H vs Q E hr hsp => ?_
      obtain ⟨hl, htb, F, ds, inn, rs, hsp⟩ := hsp
      have g : Good (nmOf nm x) G (callF G ec M n) xa (fun cls d _ H => E cls d H) (cxOf (L2.CX P w) P w K mg base x.N x.d.qual x.d.scope (He.fAd K x.d.at_) cdv A outer s H E) := by
        refine ⟨S.nd, rfl, ?_, free, glob, fun f hf => ?_, tups, hr.depth, fun hlm => ?_, fun c hcx => ⟨(exs c hcx).1, (exs c hcx).2.1, (exs c hcx).2.2.1, raises_own (exs c hcx).2.2.2.1 (exs c hcx).2.2.2.2⟩, L2.takes_of rfl rfl rfl rfl, L2.passes_of rfl⟩
        rotate_left 2
        · obtain ⟨c, P, t1, t2⟩ := tab x hx hlm
          have hlm : lamNames.contains x.d.name = true := hlm
          have t3 : tabOf K x.d.name = some P := by unfold tabOf; rw [t1]; rfl
          refine ⟨x.d.name, c, P, by simpa using hlm, ?_, t3, t2⟩
          show cdv = .ref c
          have lk2 := lk
          rw [c6] at lk2
          have lk2 : K.lookup (He.ga K x.d.name) = _ := lk2
          unfold tabCP at t1
          rw [lk2] at t1
          exact tab_code t1
        · have := hr.un
          show (A.deeper _).units + 65 < cLine
          omega
        · have hf : f ∈ nm.fs := hf
          rw [fs] at hf
          obtain ⟨y, hy, rfl⟩ := List.mem_map.mp hf
          obtain ⟨fd', hfd', ok'⟩ := ih y hy
          have hcy := chk y hy
          unfold chkFn at hcy
          cases hMy : M y.f with
          | none => rw [hMy] at hcy; cases hcy
          | some fny =>
            rw [hMy] at hcy
            simp only [Bool.and_eq_true, decide_eq_true_eq] at hcy
            obtain ⟨⟨⟨⟨⟨d1, d2⟩, d3⟩, d4⟩, d5⟩, d6⟩ := hcy
            have len : ∀ m ds, (callF G ec M m y.f ds ≠ .bad) → ds.length = y.ps.length := by
              intro m ds h
              cases m with
              | zero => exact absurd rfl h
              | succ m =>
                unfold callF at h
                rw [hMy] at h
                by_cases hz : ds.length = fny.ps
                · rw [hz, d3]
                · exfalso
                  apply h
                  show (if ds.length = fny.ps then _ else Res.bad) = Res.bad
                  rw [if_neg hz]
            refine ⟨_, fd', y.ps, n, y.ps.length, ok', fun ds d h => len n ds (by rw [h]; intro z; cases z), fun ds c h => len n ds (by rw [h]; intro z; cases z), hr, by show mg (nm.f y.f) = _; rw [d5]; exact glo y hy, kp y hy, ?_⟩
            obtain ⟨_, _, _, kV', doc', pm', an', cdv', ct', rfl, _, _⟩ := hfd'
            exact .all (bnd y hy kV' doc' pm' an' cdv' ct')
      refine ⟨_, (soundS (ec := ec) g S.kind rfl hec rfl rfl (fun z => let t := tryk z; ⟨t.ve, t.fe, t.ec, t.em, t.kv, t.kx⟩) fn.body).2 x.d.body c4, fun _ => none, F, H, F, initE ds fn.n, start_ok c2 htb inn rs ?_, ?_⟩
      · have e1 := rs.length
        have e2 : x.ps.length ≤ x.N.length := by have := congrArg List.length S.pre; rw [List.length_take] at this; omega
        omega
      · have hcl : callF G ec M (n + 1) x.f ds = endD (exec G (callF G ec M n) ec fn.body (initE ds fn.n)) := by
          conv => lhs; unfold callF
          rw [hM]
          show (if ds.length = fn.ps then _ else Res.bad) = _
          rw [if_pos (by rw [← rs.length, hl, c3])]
        rw [hcl] at hsp
        cases he : exec G (callF G ec M n) ec fn.body (initE ds fn.n) with
        | bad => rw [he] at hsp; exact hsp.elim
        | exc c => rw [he] at hsp; exact fun σ' F' H' e => hsp F' H' e
        | ok fl =>
          rw [he] at hsp
          cases fl with
          | next ρ' => exact fun σ' F' H' s' => hsp .non F' H' s'.ext .non
          | ret d => exact fun v F' H' e r => hsp v F' H' e r
          | cont ρ' => exact hsp.elim
          | brk ρ' => exact hsp.elim
end
end G7

namespace G7
open L2 PyProof.Rows PySem.Spec PySem
/-! ### the end of a law -/
def clsList : Value → Bool
  | .type c => decide (c = "list")
  | _ => false
def noList (K : PySem.W.Frag) : Bool := K.all fun p => !clsList p.2.cls
theorem lookup_mem {K : PySem.W.Frag} {a : Addr} {o : Obj} (h : K.lookup a = some o) : (a, o) ∈ K := by
  induction K with
  | nil => cases h
  | cons p r ih =>
    obtain ⟨b, u⟩ := p
    rw [List.lookup_cons] at h
    cases q : a == b with
    | true =>
      rw [q] at h
      cases h
      rw [beq_iff_eq.mp q]
      exact List.mem_cons_self
    | false =>
      rw [q] at h
      exact List.mem_cons_of_mem _ (ih h)
theorem noList_ok {K : PySem.W.Frag} (h : noList K = true) {a : Addr} {o : Obj} (e : K.lookup a = some o) : o.cls ≠ .type "list" := by
  intro z
  have := List.all_eq_true.mp h _ (lookup_mem e)
  rw [z] at this
  cases this
/-- exceptions that leave, if any is wanted -/
abbrev CXe : CXT := fun _ _ _ E _ _ => ∃ cls d H', E cls d H'
theorem FnOk.xe {P : Program} {w : World} {K : PySem.W.Frag} {mg : Str → Option Value} {base : Heap} {k : Nat} {f : Addr} {fd : FuncData} {ps : List Str} {sp : Sp} (F : FnOk P w K mg base (L2.CX P w) k f fd ps sp) : FnOk P w K mg base CXe k f fd ps sp := by
  refine ⟨F.len, fun A outer s H args us vs Q E hr he hb hv hs => codeAny_mono (F.run A outer s H args us vs Q E hr he hb hv hs) fun r s' h => ?_⟩
  cases r with
  | ok fl => cases fl <;> exact h
  | error e =>
    obtain ⟨_, _, H', cls, d, _, _, _, _, _, _, _, z⟩ := h
    exact ⟨cls, d, H', z⟩
theorem FnAt.one {K : PySem.W.Frag} {x : LD} {fd fd' : FuncData} (h : FnAt K x fd) (h' : FnAt K x fd') : fd = fd' := by
  obtain ⟨_, _, _, _, _, _, _, _, _, _, lk, _⟩ := h
  obtain ⟨_, _, _, _, _, _, _, _, _, _, lk', _⟩ := h'
  rw [lk] at lk'
  injection lk' with e
  injection e with _ _ e _
  injection e
/-- the tables of code objects stand empty, and outside of K -/
def tabObj0 : Option Obj → Bool
  | some ⟨.none, none, .fields vs, sl⟩ => vs.isEmpty && sl.isEmpty
  | _ => false
def tabG (K : PySem.W.Frag) (g : Addr → Option Obj) : Bool := lamNames.all fun x => match tabCP K x with
  | some (c, P) => tabObj0 (g P) && (K.lookup P).isNone && PySem.W.codeHdIn K c P
  | none => true
def TabH (K : PySem.W.Frag) (h : Heap) : Prop := ∀ x ∈ lamNames, ∀ c P, tabCP K x = some (c, P) → h.get? P = some { cls := .none, data := .fields #[] } ∧ K.lookup P = none ∧ PySem.W.codeHdIn K c P = true
theorem tabObj0_ok {o : Option Obj} (h : tabObj0 o = true) : o = some { cls := .none, data := .fields #[] } := by
  unfold tabObj0 at h
  split at h
  · rename_i vs sl
    simp only [Bool.and_eq_true, Array.isEmpty_iff] at h
    obtain ⟨rfl, rfl⟩ := h
    rfl
  · cases h
theorem tabG_ok {K : PySem.W.Frag} {h : Heap} (e : tabG K h.get? = true) : TabH K h := by
  intro x hx c P hc
  have := List.all_eq_true.mp e x hx
  rw [hc] at this
  simp only [Bool.and_eq_true, Option.isNone_iff_eq_none] at this
  exact ⟨tabObj0_ok this.1.1, this.1.2, this.2⟩
def obsH (n : Nat) (fa : List He.Fa) (fn : List He.FnD) (ex : PySem.W.Frag → Bool) (g : Addr → Option Obj) : He.Al × Bool := (He.obsG n fa fn g, ex (He.frG g (He.asG g n)) && tabG (He.frG g (He.asG g n)) g)
def hookH (n : Nat) (fa : List He.Fa) (fn : List He.FnD) (ex : PySem.W.Frag → Bool) : PySem.W.Hook where
  α := He.Al × Bool
  obs := fun s => obsH n fa fn ex s.heap.get?
  val := fun _ => (He.valE fn, true)
  says := fun _ h => ∃ K : PySem.W.Frag, K.In h ∧ He.SaysE fa fn K ∧ ex K = true ∧ TabH K h
  of := fun _ _ e => by
    have e2 := congrArg (fun z : He.Al × Bool => z.2) e
    have e2 := Bool.and_eq_true_iff.mp e2
    exact ⟨_, He.frG_in, congrArg (fun z : He.Al × Bool => z.1) e, e2.1, tabG_ok e2.2⟩
  keeps := fun _ _ _ ⟨K, hK, c, e, t⟩ k => ⟨K, PySem.W.Frag.In.keeps hK k, c, e, fun x hx c P hc => ⟨k _ _ (t x hx c P hc).1, (t x hx c P hc).2⟩⟩
theorem obsH_eq {n : Nat} {fa : List He.Fa} {fn : List He.FnD} {ex : PySem.W.Frag → Bool} {g : Addr → Option Obj} {s : Shared} (h : ∀ a, g a = s.heap.get? a) : obsH n fa fn ex g = (hookH n fa fn ex).obs s := by
  have e : g = s.heap.get? := funext h
  rw [e] <;> rfl
theorem says_def {fa : List He.Fa} {fn : List He.FnD} {K : PySem.W.Frag} (c : He.SaysE fa fn K) {x : LD} (h : x.d ∈ fn) : ∃ fd, FnAt K x fd := by
  obtain ⟨i, hi, e⟩ := List.mem_iff_getElem.mp h
  obtain ⟨oc, od, osl, kV, doc, pm, an, cdv, ct, lk, hcd⟩ := c.def_ i (d := x.d) (by rw [List.getElem?_eq_getElem hi, e])
  exact ⟨_, oc, od, osl, kV, doc, pm, an, cdv, ct, rfl, lk, hcd⟩
theorem says_fact {fa : List He.Fa} {fn : List He.FnD} {K : PySem.W.Frag} (c : He.SaysE fa fn K) {f : He.Fa} (h : f ∈ fa) : f.ok K = true := by
  obtain ⟨i, hi, e⟩ := List.mem_iff_getElem.mp h
  exact c.fact i (f := f) (by rw [List.getElem?_eq_getElem hi, e])
def intsD' (ns : List Int) : D := .list (ns.map .int)
theorem reps_ints {K : PySem.W.Frag} {F : Hp} : ∀ ns : List Int, Reps K F (ns.map V.int) (ns.map PyData.int)
  | [] => .nil
  | n :: r => .cons (.int n) (reps_ints r)
/-- the defs' code objects and their tables -/
def tabL (K : PySem.W.Frag) : List (Addr × Addr) := lamNames.filterMap (tabCP K)
theorem walk_ofTE {l : PySem.W.OpenLaw} {n k : Nat} {q : Program} {loose : List Str} {XP : (Str → Option Value) → Heap → Prop} {YP : World → Heap → Prop} {d : DefRec} {CX : CXT} {x : Str}
    (hn : l.most = some n) (hn2 : n ≤ sizeLine) (hdf : d.params.defaults = []) (hr : Room k callerA)
    (F : ∀ (w : World) (mg : Str → Option Value) (fa : Addr) (h : Heap), YP w h → h.Ns mainGlobals mg → mg d.name = some (.ref fa) →
      ∃ (K : PySem.W.Frag) (fd : FuncData) (sp : Sp), K.In h ∧ TabH K h ∧ (∀ (s : Shared) (u : Value), BindsTo s fd ⟨[u], []⟩ [(x, u)]) ∧
        (∀ (H : Hp) (a : Addr) (ns : List Int), ns.length ≤ n → (∀ p ∈ tabL K, H p.2 = some (.tbl #[])) → SqL K H a (ns.map V.int) → sp [.ref a] H (fun v _ => v = .bl true) fun _ _ _ => False) ∧
        ∀ base : Heap, K.In base → base.Ns mainGlobals mg → (∀ p ∈ tabL K, LamX.TabB base mg p.1 p.2) → FnOk l.prog w K mg base CX k fa fd [x] sp)
    (hCX : ∀ (H : Hp) (s : Shared) (e : Value) (s' : Shared), CX [] H s (fun _ _ _ => False) e s' → False) :
    PySem.W.WalkO q loose XP YP l.row.toRowW d [] (fun f vs => PySem.call f vs) := by
  refine Att.attach_call hn hdf fun w s₀ s₁ mg mb fa o pm cd doc a vs ns G Y ho hd hcd hmg hobj hints hlen hg => ?_
  obtain ⟨K, fd, sp, KX, TH, hb, hsp, hF⟩ := F w mg fa _ Y G.T.g hmg
  have tb : ∀ p ∈ tabL K, s₁.heap.get? p.2 = some { cls := .none, data := .fields #[] } ∧ K.lookup p.2 = none ∧ PySem.W.codeHdIn K p.1 p.2 = true := by
    intro p hp
    obtain ⟨x, hx, e⟩ := List.mem_filterMap.mp hp
    exact TH x hx p.1 p.2 e
  exact LamX.law_callTs (cs := tabL K) KX G.T.g G.T.b G.T.builtins G.T.nolimit hg (fun p hp => (tb p hp).1) (fun p hp => (tb p hp).2.1) (fun p hp => PySem.W.codeHd_of_K KX (tb p hp).2.2) G.T.bmain hobj hints (Nat.le_trans hlen hn2) hr hF hb (fun H hH hS => hsp H a ns hlen hH hS) fun H e s' => hCX H s₁ e s'
theorem law_end {P : Program} {w : World} {K : PySem.W.Frag} {mg : Str → Option Value} {h : Heap} {f : Addr} {nm : Nms} {G : Nat → Option D} {ec : Nat → Str} {M : Nat → Option Fn} {xa : Str → Addr} (KX : K.In h) (TH : TabH K h) (hmg : mg "law" = some (.ref f))
    (L : List LD) (fs : nm.fs = L.map (·.f)) (chk : ∀ x ∈ L, chkFn nm M x = true) (bnd : ∀ x ∈ L, BindOk x) (obj : ∀ x ∈ L, ∃ fd, FnAt K x fd) (kp : ∀ x ∈ L, PySem.W.keepIn K (.ref (He.fAd K x.d.at_)) = true) (glo : ∀ x ∈ L, mg x.d.name = some (.ref (He.fAd K x.d.at_)))
    (free : ∀ x ∈ bltNames, mg x = none) (glob : ∀ g ∈ nm.gs, ∃ d u v, G g = some d ∧ mg (nm.g g) = some u ∧ RelV v u ∧ ∀ F, Rep K F v d) (tups : ∀ g ∈ nm.ts, ∃ (a : Addr) (o : Obj) (ss : List Str), G g = some (.tuple (ss.map .str)) ∧ mg (nm.g g) = some (.ref a) ∧ K.lookup a = some o ∧ o.cls = .type "tuple" ∧ o.dict = none ∧ (∀ F, SqT K F a (ss.map V.str)))
    (hec : ∀ c ∈ nm.xs, ec c = nm.x c) (exs : ∀ c ∈ nm.xs, PySem.W.excIn K (xa (nm.x c)) He.veBase "ValueError.__new__" = true ∧ mg (nm.x c) = some (.ref (xa (nm.x c))) ∧ PySem.W.keepIn K (.ref (xa (nm.x c))) = true ∧ PySem.W.subIn K (.ref (xa (nm.x c))) (.type "BaseException") = some true ∧ PySem.W.typeIn K (.ref (xa (nm.x c))) = some (.type "type"))
    (tryk : nm.tr = true → TryK nm xa K mg)
    (tabs : ∀ x ∈ L, lamNames.contains x.d.name = true → ∃ cp, tabCP K x.d.name = some cp) (noL : noList K = true)
    (x : LD) (hx : x ∈ L) (hn : x.d.name = "law") (hp : x.ps = [("script" : Str)]) (n : Nat) (most : Nat) (hpure : ∀ ns : List Int, ns.length ≤ most → callF G ec M n x.f [intsD' ns] = .ok (.bool true)) :
    ∃ (K : PySem.W.Frag) (fd : FuncData) (sp : Sp), K.In h ∧ TabH K h ∧ (∀ (s : Shared) (u : Value), BindsTo s fd ⟨[u], []⟩ [("script", u)]) ∧
      (∀ (H : Hp) (a : Addr) (ns : List Int), ns.length ≤ most → (∀ p ∈ tabL K, H p.2 = some (.tbl #[])) → SqL K H a (ns.map V.int) → sp [.ref a] H (fun v _ => v = .bl true) fun _ _ _ => False) ∧
      ∀ base : Heap, K.In base → base.Ns mainGlobals mg → (∀ p ∈ tabL K, LamX.TabB base mg p.1 p.2) → FnOk P w K mg base CXe n f fd [("script" : Str)] sp := by
  obtain ⟨fd, hfd⟩ := obj x hx
  refine ⟨K, fd, spF K xa 1 (callF G ec M n x.f), KX, TH, fun s u => ?_, fun H a ns hl hT hS => ?_, fun base _ _ hB => ?_⟩
  · obtain ⟨_, _, _, kV, doc, pm, an, cdv, ct, rfl, _, _⟩ := hfd
    have := bnd x hx kV doc pm an cdv ct [u] (by rw [hp]; rfl)
    rw [hp] at this
    exact .of_eq this
  · have hTK : TabsK K H := by
      intro y hy P' hP'
      unfold tabOf at hP'
      obtain ⟨⟨c, P2⟩, h1, h2⟩ := Option.map_eq_some_iff.mp hP'
      have h2 : P2 = P' := h2
      subst h2
      exact ⟨#[], hT (c, P2) (List.mem_filterMap.mpr ⟨y, hy, h1⟩), True.intro, fun pos cv e => by simp [codeAmong] at e⟩
    have key : ∀ u : HO, (u = .lst (ns.map V.int) ∨ ∃ o, u = .frz o (.lst (ns.map V.int))) → H a = some u → spF K xa 1 (callF G ec M n x.f) [.ref a] H (fun v _ => v = .bl true) fun _ _ _ => False := by
      intro u hu hS
      have key : Inn (fun b => if b = a then H a else none) H := by
        refine ⟨fun b u q => ?_, fun b u' q => ?_⟩
        · by_cases e : b = a
          · subst e; simpa using q
          · simp [e] at q
        · by_cases e : b = a
          · subst e
            simp only [if_true] at q
            rw [hS] at q
            cases q
            rcases hu with rfl | ⟨o, rfl⟩ <;> rfl
          · simp [e] at q
      refine ⟨rfl, hTK, _, [intsD' ns], key, .cons (.lst ?_ (reps_ints ns)) .nil, ?_⟩
      · rcases hu with rfl | ⟨o, rfl⟩
        · exact .inl (by simp only [if_true]; exact hS)
        · exact .inr ⟨o, by simp only [if_true]; exact hS⟩
      · rw [hpure ns hl]
        intro v F' H' _ r
        cases r
        rfl
    rcases hS with hS | ⟨o, its, k, lk, hc, _⟩
    · rcases hS with hS | ⟨o, hS⟩
      · exact key _ (.inl rfl) hS
      · exact key _ (.inr ⟨o, rfl⟩) hS
    · exact (noList_ok noL lk hc).elim
  · obtain ⟨fd', h1, h2⟩ := fn_all (P := P) (w := w) (base := base) (nm := nm) (G := G) (ec := ec) (M := M) (xa := xa) L fs chk bnd obj kp glo free glob tups hec exs tryk (fun y hy hl => by
      obtain ⟨⟨c, P'⟩, e⟩ := tabs y hy hl
      exact ⟨c, P', e, hB (c, P') (List.mem_filterMap.mpr ⟨_, by simpa using hl, e⟩)⟩) n x hx
    have e := h1.one hfd
    subst e
    have e2 : f = He.fAd K x.d.at_ := by
      have := glo x hx
      rw [hn, hmg] at this
      injection this with this
      injection this
    rw [e2]
    rw [hp] at h2
    exact FnOk.xe h2
end G7

namespace G7
open L2 PyProof.Rows PySem.Spec PySem
/-! ### the module's constants -/
def sortsL : List Str := ["whole", "text", "truth", "nothing", "row", "record"]
def strV : Value → Option Str
  | .str x _ => some x
  | _ => none
def tupStr (K : PySem.W.Frag) (x : Str) (ss : List Str) : Bool := match PySem.W.nsIn K mainGlobals x with
  | some (some (.ref a)) => (match K.lookup a with
    | some ⟨.type c, none, .seq its _, _⟩ => decide (c = "tuple") && decide (its.toList.map strV = ss.map some)
    | _ => false)
  | _ => false
section
variable {K : PySem.W.Frag} {h : Heap} {mg : Str → Option Value} {G : Nat → Option D} {g : Nat}
theorem glob_str (X : K.In h) (Gh : h.Ns mainGlobals mg) {x z : Str} (c : (He.Fa.str x z).ok K = true) (e : G g = some (.str z)) (ho : SOk z) : ∃ d u v, G g = some d ∧ mg x = some u ∧ RelV v u ∧ ∀ F, Rep K F v d := by
  obtain ⟨t, ht⟩ := He.str_ok X Gh c
  exact ⟨_, _, .str z, e, ht, ⟨t, rfl⟩, fun F => .str ho⟩
theorem glob_int (X : K.In h) (Gh : h.Ns mainGlobals mg) {x : Str} {i : Int} (c : (He.Fa.int x i).ok K = true) (e : G g = some (.int i)) : ∃ d u v, G g = some d ∧ mg x = some u ∧ RelV v u ∧ ∀ F, Rep K F v d := by
  obtain ⟨t, ht⟩ := He.int_ok X Gh c
  exact ⟨_, _, .int i, e, ht, ⟨t, rfl⟩, fun F => .int i⟩
theorem vals_strs : ∀ {its : List Value} {ss : List Str}, its.map strV = ss.map some → Vals (ss.map V.str) its
  | [], [], _ => .nil
  | [], _ :: _, h => by cases h
  | _ :: _, [], h => by cases h
  | v :: its, s :: ss, h => by
    rw [List.map_cons, List.map_cons] at h
    injection h with h1 h2
    cases v with
    | str x t => cases h1; exact .cons ⟨t, rfl⟩ (vals_strs h2)
    | _ => cases h1
theorem reps_strsK {F : Hp} : ∀ {ss : List Str}, (∀ s ∈ ss, SOk s) → Reps K F (ss.map V.str) (ss.map PyData.str)
  | [], _ => .nil
  | s :: ss, h => .cons (.str (h s List.mem_cons_self)) (reps_strsK fun t ht => h t (List.mem_cons_of_mem _ ht))
def sokB (x : Str) : Bool := decide (x.length ≤ 1000) && PySem.PyData.strOk x
theorem sokB_ok {x : Str} (h : sokB x = true) : SOk x := by
  unfold sokB at h
  simp only [Bool.and_eq_true, decide_eq_true_eq] at h
  exact ⟨Nat.le_trans h.1 (by decide), h.2⟩
theorem glob_tup (X : K.In h) (Gh : h.Ns mainGlobals mg) {x : Str} {ss : List Str} (c : tupStr K x ss = true) (e : G g = some (.tuple (ss.map .str))) (hs : (ss.all sokB && decide (ss.length ≤ 1000)) = true) : ∃ d u v, G g = some d ∧ mg x = some u ∧ RelV v u ∧ ∀ F, Rep K F v d := by
  simp only [Bool.and_eq_true, decide_eq_true_eq, List.all_eq_true] at hs
  unfold tupStr at c
  cases e1 : PySem.W.nsIn K mainGlobals x with
  | none => rw [e1] at c; cases c
  | some o =>
    rw [e1] at c
    cases o with
    | none => cases c
    | some v =>
      cases v with
      | ref a =>
        have c : (match K.lookup a with
          | some ⟨.type c, none, .seq its _, _⟩ => decide (c = "tuple") && decide (its.toList.map strV = ss.map some)
          | _ => false) = true := c
        split at c
        · rename_i cc its n sl hlk
          simp only [Bool.and_eq_true, decide_eq_true_eq] at c
          obtain ⟨rfl, c2⟩ := c
          have vs := vals_strs c2
          have hl : ss.length = its.size := by have := vs.length; simpa using this
          refine ⟨_, _, .ref a, e, PySem.W.mg_of X Gh e1, rfl, fun F => .tup (.inr ⟨_, its, n, hlk, rfl, rfl, rfl, ?_, vs⟩) (reps_strsK fun s hs' => sokB_ok (hs.1 s hs'))⟩
          rw [← hl]
          exact Nat.le_trans hs.2 (by decide)
        · cases c
      | _ => cases c
theorem tups_tup (X : K.In h) (Gh : h.Ns mainGlobals mg) {x : Str} {ss : List Str} (c : tupStr K x ss = true) (e : G g = some (.tuple (ss.map .str))) (hs : (ss.all sokB && decide (ss.length ≤ 1000)) = true) : ∃ (a : Addr) (o : Obj) (ss : List Str), G g = some (.tuple (ss.map .str)) ∧ mg x = some (.ref a) ∧ K.lookup a = some o ∧ o.cls = .type "tuple" ∧ o.dict = none ∧ (∀ F, SqT K F a (ss.map V.str)) := by
  simp only [Bool.and_eq_true, decide_eq_true_eq, List.all_eq_true] at hs
  unfold tupStr at c
  cases e1 : PySem.W.nsIn K mainGlobals x with
  | none => rw [e1] at c; cases c
  | some o =>
    rw [e1] at c
    cases o with
    | none => cases c
    | some v =>
      cases v with
      | ref a =>
        have c : (match K.lookup a with
          | some ⟨.type c, none, .seq its _, _⟩ => decide (c = "tuple") && decide (its.toList.map strV = ss.map some)
          | _ => false) = true := c
        split at c
        · rename_i cc its n sl hlk
          simp only [Bool.and_eq_true, decide_eq_true_eq] at c
          obtain ⟨rfl, c2⟩ := c
          have vs := vals_strs c2
          have hl : ss.length = its.size := by have := vs.length; simpa using this
          refine ⟨a, _, ss, e, PySem.W.mg_of X Gh e1, hlk, rfl, rfl, fun F => .inr ⟨_, its, n, hlk, rfl, rfl, ?_, vs⟩⟩
          rw [← hl]
          exact Nat.le_trans hs.2 (by decide)
        · cases c
      | _ => cases c
end
/-! ### the own exceptions' classes -/
def excCB (K : PySem.W.Frag) (D : Addr) : Bool :=
  decide (PySem.W.findIn K (.ref D) "__getattribute__" = some (some (.builtin "BaseException.__getattribute__"))) && decide (PySem.W.findIn K (.ref D) "__getattr__" = some none) && decide (PySem.W.subIn K (.ref D) (.type "BaseException") = some true) && PySem.W.hasDictIn K D
  && decide (PySem.W.findIn K (.ref D) "__class__" = some (some (.builtin "object.__class__"))) && decide (PySem.W.specialIn K (.builtin "object.__class__") "__get__" = some (some (.builtin "getset_descriptor.__get__"))) && decide (PySem.W.takesIn K (.builtin "object.__class__") = some true) && decide (PySem.W.mroIn K D (.type "object") = some true)
def tryB (K : PySem.W.Frag) (x : Nat → Str) (xs : List Nat) : Bool := xs.all fun c => excCB K (He.ga K (x c)) && decide (PySem.W.exmOne K (.ref (He.ga K (x c))) (.ref (He.ga K "FaceError")) = some true) && decide (PySem.W.kitOne K (.ref (He.ga K (x c))) (.type "ValueError") = some true)
  && xs.all fun c' => decide (PySem.W.kitOne K (.ref (He.ga K (x c))) (.ref (He.ga K (x c'))) = some (decide (c = c')))
theorem tryB_ok {nm : Nms} {K : PySem.W.Frag} {mg : Str → Option Value} (h : tryB K nm.x nm.xs = true) (hv : mg "ValueError" = none) (hf : mg "FaceError" = some (.ref (He.ga K "FaceError"))) : TryK nm (He.ga K) K mg := by
  have h := List.all_eq_true.mp h
  have h : ∀ c ∈ nm.xs, _ := fun c hc => by
    have := h c hc
    simp only [Bool.and_eq_true, decide_eq_true_eq, List.all_eq_true] at this
    exact this
  refine ⟨hv, hf, fun c hc => ?_, fun c hc => (h c hc).1.1.2, fun c hc => (h c hc).1.2, fun c hc c' hc' => (h c hc).2 c' hc'⟩
  have z := (h c hc).1.1.1
  unfold excCB at z
  simp only [Bool.and_eq_true, decide_eq_true_eq] at z
  obtain ⟨⟨⟨⟨⟨⟨⟨z1, z2⟩, z3⟩, z4⟩, z5⟩, z6⟩, z7⟩, z8⟩ := z
  exact ⟨z1, z2, z3, z4, z5, z6, z7, z8⟩
end G7

namespace G7
open PySem
def f_is_name : Fn := ⟨1, 2, (S.cons (S.ret (E.and (E.isi (E.var 0) [.str]) (E.and (E.chain .le .le (E.kI 1) (E.bt .len (E.cons (E.var 0) E.nil)) (E.kI 6)) (E.one (E.bt .all (E.cons (E.lc (E.cmp .inn (E.var 1) (E.glob 0)) (.nm 1) (E.one (E.var 0)) E.nil) E.nil))))))
 S.nil)⟩
def f_rises : Fn := ⟨1, 2, (S.cons (S.ret (E.bt .all (E.cons (E.lc (E.cmp .lt (E.idx (E.var 0) (E.op .sub (E.var 1) (E.kI 1))) (E.idx (E.var 0) (E.var 1))) (.nm 1) (E.rng2 (E.kI 1) (E.bt .len (E.cons (E.var 0) E.nil))) E.nil) E.nil)))
 S.nil)⟩
def f_is_named : Fn := ⟨2, 3, (S.cons (S.ifs (E.not (E.isi (E.var 0) [.tuple])) (S.cons (S.ret (E.kB false))
 S.nil) S.nil)
 (S.cons (S.for_ (.nm 2) (E.one (E.var 0)) (S.cons (S.ifs (E.or (E.not (E.isi (E.var 2) [.tuple])) (E.or (E.cmp .ne (E.bt .len (E.cons (E.var 2) E.nil)) (E.var 1)) (E.one (E.not (E.call 0 (E.cons (E.idx (E.var 2) (E.kI 0)) E.nil)))))) (S.cons (S.ret (E.kB false))
 S.nil) S.nil)
 S.nil))
 (S.cons (S.ret (E.call 1 (E.cons (E.lc (E.idx (E.var 2) (E.kI 0)) (.nm 2) (E.one (E.var 0)) E.nil) E.nil)))
 S.nil)))⟩
def f_are_pairs : Fn := ⟨2, 4, (S.cons (S.ret (E.and (E.call 2 (E.cons (E.var 0) (E.cons (E.kI 2) E.nil))) (E.one (E.bt .all (E.cons (E.lc (E.call 4 (E.cons (E.var 3) (E.cons (E.var 1) E.nil))) (.tp (.cons (.nm 2) (.cons (.nm 3) .nil))) (E.one (E.var 0)) E.nil) E.nil)))))
 S.nil)⟩
def f_is_value_in : Fn := ⟨2, 3, (S.cons (S.ifs (E.or (E.cmp .is (E.var 0) E.kN) (E.one (E.isi (E.var 0) [.int, .str]))) (S.cons (S.ret (E.kB true))
 S.nil) S.nil)
 (S.cons (S.ifs (E.or (E.cmp .eq (E.var 1) (E.kI 0)) (E.or (E.not (E.isi (E.var 0) [.tuple])) (E.or (E.cmp .ne (E.bt .len (E.cons (E.var 0) E.nil)) (E.kI 2)) (E.one (E.not (E.isi (E.idx (E.var 0) (E.kI 0)) [.str])))))) (S.cons (S.ret (E.kB false))
 S.nil) S.nil)
 (S.cons (S.ifs (E.cmp .eq (E.idx (E.var 0) (E.kI 0)) (E.kS "record")) (S.cons (S.ret (E.call 3 (E.cons (E.idx (E.var 0) (E.kI 1)) (E.cons (E.op .sub (E.var 1) (E.kI 1)) E.nil))))
 S.nil) S.nil)
 (S.cons (S.ret (E.and (E.cmp .eq (E.idx (E.var 0) (E.kI 0)) (E.kS "row")) (E.and (E.isi (E.idx (E.var 0) (E.kI 1)) [.tuple]) (E.one (E.bt .all (E.cons (E.lc (E.call 4 (E.cons (E.var 2) (E.cons (E.op .sub (E.var 1) (E.kI 1)) E.nil))) (.nm 2) (E.one (E.idx (E.var 0) (E.kI 1))) E.nil) E.nil))))))
 S.nil))))⟩
def f_is_value : Fn := ⟨1, 1, (S.cons (S.ret (E.call 4 (E.cons (E.var 0) (E.cons (E.kI 20) E.nil))))
 S.nil)⟩
def f_sort_of : Fn := ⟨1, 1, (S.cons (S.ifs (E.cmp .is (E.var 0) E.kN) (S.cons (S.ret (E.kS "nothing"))
 S.nil) S.nil)
 (S.cons (S.ifs (E.isi (E.var 0) [.bool]) (S.cons (S.ret (E.kS "truth"))
 S.nil) S.nil)
 (S.cons (S.ifs (E.isi (E.var 0) [.int]) (S.cons (S.ret (E.kS "whole"))
 S.nil) S.nil)
 (S.cons (S.ifs (E.isi (E.var 0) [.str]) (S.cons (S.ret (E.kS "text"))
 S.nil) S.nil)
 (S.cons (S.ret (E.idx (E.var 0) (E.kI 0)))
 S.nil)))))⟩
def f__law_cell : Fn := ⟨2, 2, (S.cons (S.ifs (E.cmp .lt (E.var 1) (E.bt .len (E.cons (E.var 0) E.nil))) (S.cons (S.ret (E.idx (E.var 0) (E.var 1)))
 S.nil) S.nil)
 (S.cons (S.ret (E.kI 0))
 S.nil))⟩
def f__law_mix : Fn := ⟨3, 3, (S.cons (S.ret (E.op .mod (E.op .mod (E.op .mul (E.var 0) (E.kI 48271)) (E.var 1)) (E.var 2)))
 S.nil)⟩
def f__law_name : Fn := ⟨1, 3, (S.cons (S.asg (.nm 1) (E.kS "abcdefghijklmnopqrstuvwxyz"))
 (S.cons (S.ifs (E.cmp .gt (E.op .mod (E.var 0) (E.kI 3)) (E.kI 0)) (S.cons (S.ret (E.idx (E.var 1) (E.call 8 (E.cons (E.var 0) (E.cons (E.kI 9973) (E.cons (E.kI 4) E.nil))))))
 S.nil) S.nil)
 (S.cons (S.ret (E.bt .join (E.cons (E.kS "") (E.cons (E.lc (E.idx (E.var 1) (E.call 8 (E.cons (E.op .add (E.var 0) (E.op .mul (E.kI 7) (E.var 2))) (E.cons (E.kI 9967) (E.cons (E.kI 26) E.nil))))) (.nm 2) (E.rng1 (E.op .add (E.kI 1) (E.call 8 (E.cons (E.var 0) (E.cons (E.kI 9949) (E.cons (E.kI 6) E.nil)))))) E.nil) E.nil))))
 S.nil)))⟩
def f__law_value : Fn := ⟨2, 6, (S.cons (S.asg (.nm 2) (E.call 8 (E.cons (E.var 0) (E.cons (E.kI 9859) (E.cons (E.op .add (E.kI 5) (E.op .mul (E.kI 2) (E.bt .int (E.cons (E.cmp .gt (E.var 1) (E.kI 0)) E.nil)))) E.nil)))))
 (S.cons (S.ifs (E.cmp .eq (E.var 2) (E.kI 0)) (S.cons (S.ret (E.op .sub (E.call 8 (E.cons (E.var 0) (E.cons (E.kI 9857) (E.cons (E.kI 25) E.nil)))) (E.kI 12)))
 S.nil) S.nil)
 (S.cons (S.ifs (E.cmp .eq (E.var 2) (E.kI 1)) (S.cons (S.ret (E.slc (E.kS "abc;de") E.kN (E.call 8 (E.cons (E.var 0) (E.cons (E.kI 9851) (E.cons (E.kI 7) E.nil))))))
 S.nil) S.nil)
 (S.cons (S.ifs (E.cmp .eq (E.var 2) (E.kI 2)) (S.cons (S.ret (E.cmp .eq (E.op .mod (E.var 0) (E.kI 2)) (E.kI 0)))
 S.nil) S.nil)
 (S.cons (S.ifs (E.cmp .eq (E.var 2) (E.kI 3)) (S.cons (S.ret E.kN)
 S.nil) S.nil)
 (S.cons (S.ifs (E.cmp .eq (E.var 2) (E.kI 4)) (S.cons (S.ret (E.idx (E.tup (E.cons (E.kI 0) (E.cons (E.kS "") (E.cons (E.op .pow (E.kI 10) (E.kI 9)) (E.cons (E.op .mul (E.kS "a") (E.kI 12)) E.nil))))) (E.call 8 (E.cons (E.var 0) (E.cons (E.kI 9839) (E.cons (E.kI 4) E.nil))))))
 S.nil) S.nil)
 (S.cons (S.ifs (E.cmp .eq (E.var 2) (E.kI 5)) (S.cons (S.ret (E.tup (E.cons (E.kS "row") (E.cons (E.bt .tuple (E.cons (E.lc (E.call 10 (E.cons (E.op .add (E.op .add (E.var 0) (E.op .mul (E.kI 7) (E.var 4))) (E.kI 1)) (E.cons (E.op .sub (E.var 1) (E.kI 1)) E.nil))) (.nm 4) (E.rng1 (E.call 8 (E.cons (E.var 0) (E.cons (E.kI 9833) (E.cons (E.kI 4) E.nil))))) E.nil) E.nil)) E.nil))))
 S.nil) S.nil)
 (S.cons (S.asg (.nm 3) E.dnew)
 (S.cons (S.for_ (.nm 4) (E.rng1 (E.call 8 (E.cons (E.var 0) (E.cons (E.kI 9829) (E.cons (E.kI 4) E.nil))))) (S.cons (S.dput 3 (E.call 9 (E.cons (E.op .add (E.var 0) (E.op .mul (E.kI 11) (E.var 4))) E.nil)) (E.call 10 (E.cons (E.op .add (E.op .add (E.var 0) (E.op .mul (E.kI 13) (E.var 4))) (E.kI 2)) (E.cons (E.op .sub (E.var 1) (E.kI 1)) E.nil))))
 S.nil))
 (S.cons (S.ret (E.tup (E.cons (E.kS "record") (E.cons (E.bt .tuple (E.cons (E.lc (E.tup (E.cons (E.var 5) (E.cons (E.idx (E.var 3) (E.var 5)) E.nil))) (.nm 5) (E.one (E.bt .sorted (E.cons (E.var 3) E.nil))) E.nil) E.nil)) E.nil))))
 S.nil))))))))))⟩
def f__law_between : Fn := ⟨3, 3, (S.cons (S.ret (E.and (E.or (E.cmp .is (E.var 1) E.kN) (E.one (E.cmp .ge (E.var 0) (E.var 1)))) (E.one (E.or (E.cmp .is (E.var 2) E.kN) (E.one (E.cmp .le (E.var 0) (E.var 2)))))))
 S.nil)⟩
def f__law_sort : Fn := ⟨1, 1, (S.cons (S.ifs (E.cmp .is (E.var 0) E.kN) (S.cons (S.ret (E.kS "nothing"))
 S.nil) S.nil)
 (S.cons (S.ifs (E.isi (E.var 0) [.bool]) (S.cons (S.ret (E.kS "truth"))
 S.nil) S.nil)
 (S.cons (S.ifs (E.isi (E.var 0) [.int]) (S.cons (S.ret (E.kS "whole"))
 S.nil) S.nil)
 (S.cons (S.ifs (E.isi (E.var 0) [.str]) (S.cons (S.ret (E.kS "text"))
 S.nil) S.nil)
 (S.cons (S.ret (E.idx (E.var 0) (E.kI 0)))
 S.nil)))))⟩
def f__law_of : Fn := ⟨2, 6, (S.cons (S.asg (.nm 2) (E.call 12 (E.cons (E.var 0) E.nil)))
 (S.cons (S.asg (.nm 3) (E.lc (E.var 4) (.nm 4) (E.one (E.var 1)) (E.cons (E.cmp .eq (E.idx (E.var 4) (E.kI 0)) (E.var 2)) E.nil)))
 (S.cons (S.ifs (E.not (E.var 3)) (S.cons (S.ret (E.kB false))
 S.nil) S.nil)
 (S.cons (S.asg (.nm 4) (E.idx (E.var 3) (E.kI 0)))
 (S.cons (S.ifs (E.cmp .eq (E.var 2) (E.kS "whole")) (S.cons (S.ret (E.call 11 (E.cons (E.var 0) (E.cons (E.idx (E.var 4) (E.kI 1)) (E.cons (E.idx (E.var 4) (E.kI 2)) E.nil)))))
 S.nil) S.nil)
 (S.cons (S.ifs (E.cmp .eq (E.var 2) (E.kS "text")) (S.cons (S.ret (E.call 11 (E.cons (E.bt .len (E.cons (E.var 0) E.nil)) (E.cons (E.idx (E.var 4) (E.kI 1)) (E.cons (E.idx (E.var 4) (E.kI 2)) E.nil)))))
 S.nil) S.nil)
 (S.cons (S.ifs (E.cmp .eq (E.var 2) (E.kS "truth")) (S.cons (S.ret (E.or (E.cmp .is (E.idx (E.var 4) (E.kI 1)) E.kN) (E.one (E.cmp .eq (E.idx (E.var 4) (E.kI 1)) (E.var 0)))))
 S.nil) S.nil)
 (S.cons (S.ifs (E.cmp .eq (E.var 2) (E.kS "row")) (S.cons (S.ret (E.and (E.call 11 (E.cons (E.bt .len (E.cons (E.idx (E.var 0) (E.kI 1)) E.nil)) (E.cons (E.idx (E.var 4) (E.kI 2)) (E.cons (E.idx (E.var 4) (E.kI 3)) E.nil)))) (E.one (E.bt .all (E.cons (E.lc (E.call 13 (E.cons (E.var 5) (E.cons (E.idx (E.var 4) (E.kI 1)) E.nil))) (.nm 5) (E.one (E.idx (E.var 0) (E.kI 1))) E.nil) E.nil)))))
 S.nil) S.nil)
 (S.cons (S.ifs (E.cmp .eq (E.var 2) (E.kS "record")) (S.cons (S.ret (E.call 14 (E.cons (E.idx (E.var 0) (E.kI 1)) (E.cons (E.var 4) E.nil))))
 S.nil) S.nil)
 (S.cons (S.ret (E.kB true))
 S.nil))))))))))⟩
def f__law_fits : Fn := ⟨2, 8, (S.cons (S.asg (.nm 2) (E.bt .dict (E.cons (E.lc (E.tup (E.cons (E.var 4) (E.cons (E.var 6) E.nil))) (.tp (.cons (.nm 4) (.cons (.nm 6) (.cons (.nm 7) .nil)))) (E.one (E.idx (E.var 1) (E.kI 1))) E.nil) E.nil)))
 (S.cons (S.asg (.nm 3) (E.lc (E.var 4) (.tp (.cons (.nm 4) (.cons (.nm 5) .nil))) (E.one (E.var 0)) E.nil))
 (S.cons (S.ifs (E.lc (E.kI 1) (.tp (.cons (.nm 4) (.cons (.nm 6) (.cons (.nm 7) .nil)))) (E.one (E.idx (E.var 1) (E.kI 1))) (E.cons (E.and (E.var 7) (E.one (E.cmp .nin (E.var 4) (E.var 3)))) E.nil)) (S.cons (S.ret (E.kB false))
 S.nil) S.nil)
 (S.cons (S.for_ (.tp (.cons (.nm 4) (.cons (.nm 5) .nil))) (E.one (E.var 0)) (S.cons (S.ifs (E.or (E.and (E.cmp .inn (E.var 4) (E.var 2)) (E.one (E.not (E.call 13 (E.cons (E.var 5) (E.cons (E.idx (E.var 2) (E.var 4)) E.nil)))))) (E.one (E.and (E.cmp .nin (E.var 4) (E.var 2)) (E.one (E.not (E.idx (E.var 1) (E.kI 2))))))) (S.cons (S.ret (E.kB false))
 S.nil) S.nil)
 S.nil))
 (S.cons (S.ret (E.kB true))
 S.nil)))))⟩
def f__law_no_values : Fn := ⟨2, 4, (S.cons (S.asg (.nm 2) (E.call 9 (E.cons (E.var 1) E.nil)))
 (S.cons (S.asg (.nm 3) (E.lst (E.cons (E.tup (E.cons (E.kS "row") (E.cons (E.lst (E.cons (E.var 0) E.nil)) E.nil))) (E.cons (E.tup (E.cons (E.kS "row") (E.cons (E.var 0) (E.cons (E.kI 1) E.nil)))) (E.cons (E.tup (E.cons (E.kS "row") E.nil)) E.nil)))))
 (S.cons (S.asg (.nm 3) (E.op .add (E.var 3) (E.lst (E.cons (E.lst (E.cons (E.kS "row") (E.cons (E.tup (E.cons (E.var 0) E.nil)) E.nil))) (E.cons (E.tup (E.cons (E.kS "record") (E.cons (E.tup (E.cons (E.tup (E.cons (E.var 2) (E.cons (E.var 0) E.nil))) (E.cons (E.tup (E.cons (E.var 2) (E.cons (E.var 0) E.nil))) E.nil))) E.nil))) E.nil)))))
 (S.cons (S.asg (.nm 3) (E.op .add (E.var 3) (E.lst (E.cons (E.tup (E.cons (E.kS "record") (E.cons (E.tup (E.cons (E.tup (E.cons (E.op .add (E.var 2) (E.kS "b")) (E.cons (E.var 0) E.nil))) (E.cons (E.tup (E.cons (E.op .add (E.var 2) (E.kS "a")) (E.cons (E.var 0) E.nil))) E.nil))) E.nil))) E.nil))))
 (S.cons (S.asg (.nm 3) (E.op .add (E.var 3) (E.lst (E.cons (E.tup (E.cons (E.kS "record") (E.cons (E.tup (E.cons (E.tup (E.cons (E.var 2) E.nil)) E.nil)) E.nil))) E.nil))))
 (S.cons (S.asg (.nm 3) (E.op .add (E.var 3) (E.lst (E.cons (E.tup (E.cons (E.kS "record") (E.cons (E.tup (E.cons (E.tup (E.cons (E.kS "A") (E.cons (E.var 0) E.nil))) E.nil)) E.nil))) E.nil))))
 (S.cons (S.asg (.nm 3) (E.op .add (E.var 3) (E.lst (E.cons (E.tup (E.cons (E.kS "record") (E.cons (E.lst (E.cons (E.tup (E.cons (E.var 2) (E.cons (E.var 0) E.nil))) E.nil)) E.nil))) (E.cons (E.tup (E.cons (E.kS "record") (E.cons (E.tup (E.cons (E.tup (E.cons (E.var 2) (E.cons (E.var 0) (E.cons (E.kI 1) E.nil)))) E.nil)) E.nil))) E.nil)))))
 (S.cons (S.asg (.nm 3) (E.op .add (E.var 3) (E.lst (E.cons (E.tup (E.cons (E.kS "record") (E.cons (E.tup (E.cons (E.tup (E.cons (E.kI 5) (E.cons (E.var 0) E.nil))) E.nil)) E.nil))) (E.cons (E.tup (E.cons (E.kS "word") (E.cons (E.tup E.nil) E.nil))) E.nil)))))
 (S.cons (S.asg (.nm 3) (E.op .add (E.var 3) (E.lst (E.cons (E.lst E.nil) (E.cons (E.lst (E.cons (E.var 0) E.nil)) (E.cons (E.tup E.nil) (E.cons (E.tup (E.cons (E.var 0) E.nil)) E.nil)))))))
 (S.cons (S.asg (.nm 3) (E.op .add (E.var 3) (E.lst (E.cons (E.tup (E.cons (E.kS "record") (E.cons (E.tup (E.cons (E.tup (E.cons (E.kS "") (E.cons (E.var 0) E.nil))) E.nil)) E.nil))) (E.cons (E.tup (E.cons (E.kS "record") (E.cons (E.tup (E.cons (E.tup (E.cons (E.kS "abcdefg") (E.cons (E.var 0) E.nil))) E.nil)) E.nil))) (E.cons (E.tup (E.cons (E.kI 5) (E.cons (E.tup (E.cons (E.var 0) E.nil)) E.nil))) E.nil))))))
 (S.cons (S.ret (E.var 3))
 S.nil)))))))))))⟩
def f__law_bounds : Fn := ⟨3, 5, (S.cons (S.asg (.nm 3) (E.op .add (E.var 1) (E.call 8 (E.cons (E.var 0) (E.cons (E.kI 9941) (E.cons (E.op .add (E.op .sub (E.var 2) (E.var 1)) (E.kI 1)) E.nil))))))
 (S.cons (S.asg (.nm 4) (E.op .add (E.var 3) (E.call 8 (E.cons (E.var 0) (E.cons (E.kI 9931) (E.cons (E.op .add (E.op .sub (E.var 2) (E.var 3)) (E.kI 1)) E.nil))))))
 (S.cons (S.ifs (E.cmp .eq (E.call 8 (E.cons (E.var 0) (E.cons (E.kI 9929) (E.cons (E.kI 4) E.nil)))) (E.kI 0)) (S.cons (S.asg (.nm 4) E.kN)
 S.nil) S.nil)
 (S.cons (S.ret (E.tup (E.cons (E.var 3) (E.cons (E.var 4) E.nil))))
 S.nil))))⟩
def f__law_fields : Fn := ⟨2, 5, (S.cons (S.asg (.nm 2) E.dnew)
 (S.cons (S.for_ (.nm 3) (E.rng1 (E.call 8 (E.cons (E.var 0) (E.cons (E.kI 9923) (E.cons (E.kI 4) E.nil))))) (S.cons (S.asg (.nm 4) (E.call 9 (E.cons (E.op .add (E.var 0) (E.op .mul (E.kI 11) (E.var 3))) E.nil)))
 (S.cons (S.dput 2 (E.var 4) (E.tup (E.cons (E.var 4) (E.cons (E.call 28 (E.cons (E.op .add (E.op .add (E.var 0) (E.op .mul (E.kI 13) (E.var 3))) (E.kI 3)) (E.cons (E.var 1) E.nil))) (E.cons (E.cmp .eq (E.call 8 (E.cons (E.op .add (E.var 0) (E.var 3)) (E.cons (E.kI 9907) (E.cons (E.kI 2) E.nil)))) (E.kI 0)) E.nil)))))
 S.nil)))
 (S.cons (S.ret (E.bt .tuple (E.cons (E.lc (E.idx (E.var 2) (E.var 4)) (.nm 4) (E.one (E.bt .sorted (E.cons (E.var 2) E.nil))) E.nil) E.nil)))
 S.nil)))⟩
def f__law_part : Fn := ⟨3, 5, (S.cons (S.ifs (E.cmp .eq (E.var 1) (E.kS "whole")) (S.cons (S.asg (.tp (.cons (.nm 3) (.cons (.nm 4) .nil))) (E.call 25 (E.cons (E.var 0) (E.cons (E.neg (E.kI 9)) (E.cons (E.kI 9) E.nil)))))
 (S.cons (S.ifs (E.cmp .eq (E.call 8 (E.cons (E.var 0) (E.cons (E.kI 9901) (E.cons (E.kI 4) E.nil)))) (E.kI 0)) (S.cons (S.asg (.nm 3) E.kN)
 S.nil) S.nil)
 (S.cons (S.ret (E.tup (E.cons (E.var 1) (E.cons (E.var 3) (E.cons (E.var 4) E.nil)))))
 S.nil))) S.nil)
 (S.cons (S.ifs (E.cmp .eq (E.var 1) (E.kS "text")) (S.cons (S.ret (E.op .add (E.tup (E.cons (E.var 1) E.nil)) (E.call 25 (E.cons (E.var 0) (E.cons (E.kI 0) (E.cons (E.kI 4) E.nil))))))
 S.nil) S.nil)
 (S.cons (S.ifs (E.cmp .eq (E.var 1) (E.kS "truth")) (S.cons (S.ret (E.tup (E.cons (E.var 1) (E.cons (E.idx (E.tup (E.cons E.kN (E.cons (E.kB true) (E.cons (E.kB false) E.nil)))) (E.call 8 (E.cons (E.var 0) (E.cons (E.kI 9887) (E.cons (E.kI 3) E.nil))))) E.nil))))
 S.nil) S.nil)
 (S.cons (S.ifs (E.cmp .eq (E.var 1) (E.kS "row")) (S.cons (S.ret (E.op .add (E.tup (E.cons (E.var 1) (E.cons (E.call 28 (E.cons (E.op .add (E.var 0) (E.kI 5)) (E.cons (E.op .sub (E.var 2) (E.kI 1)) E.nil))) E.nil))) (E.call 25 (E.cons (E.var 0) (E.cons (E.kI 0) (E.cons (E.kI 3) E.nil))))))
 S.nil) S.nil)
 (S.cons (S.ifs (E.cmp .eq (E.var 1) (E.kS "record")) (S.cons (S.ret (E.tup (E.cons (E.var 1) (E.cons (E.call 26 (E.cons (E.op .add (E.var 0) (E.kI 7)) (E.cons (E.op .sub (E.var 2) (E.kI 1)) E.nil))) (E.cons (E.cmp .eq (E.call 8 (E.cons (E.var 0) (E.cons (E.kI 9883) (E.cons (E.kI 2) E.nil)))) (E.kI 0)) E.nil)))))
 S.nil) S.nil)
 (S.cons (S.ret (E.tup (E.cons (E.var 1) E.nil)))
 S.nil))))))⟩
def f__law_kind : Fn := ⟨2, 6, (S.cons (S.asg (.nm 2) (E.slc (E.tup (E.cons (E.kS "whole") (E.cons (E.kS "text") (E.cons (E.kS "truth") (E.cons (E.kS "nothing") (E.cons (E.kS "row") (E.cons (E.kS "record") E.nil))))))) E.kN (E.op .add (E.kI 4) (E.op .mul (E.kI 2) (E.bt .int (E.cons (E.cmp .gt (E.var 1) (E.kI 0)) E.nil))))))
 (S.cons (S.asg (.nm 3) (E.lst E.nil))
 (S.cons (S.for_ (.tp (.cons (.nm 4) (.cons (.nm 5) .nil))) (E.enum (E.var 2)) (S.cons (S.ifs (E.cmp .lt (E.call 8 (E.cons (E.op .add (E.op .mul (E.var 0) (E.op .add (E.op .mul (E.kI 2) (E.var 4)) (E.kI 3))) (E.op .mul (E.kI 17) (E.var 4))) (E.cons (E.kI 9871) (E.cons (E.kI 5) E.nil)))) (E.kI 2)) (S.cons (S.app 3 (E.call 27 (E.cons (E.op .add (E.var 0) (E.op .mul (E.kI 19) (E.var 4))) (E.cons (E.var 5) (E.cons (E.var 1) E.nil)))))
 S.nil) S.nil)
 S.nil))
 (S.cons (S.ret (E.bt .tuple (E.cons (E.var 3) E.nil)))
 S.nil))))⟩
def f_part_of : Fn := ⟨2, 3, (S.cons (S.for_ (.nm 2) (E.one (E.var 0)) (S.cons (S.ifs (E.cmp .eq (E.idx (E.var 2) (E.kI 0)) (E.var 1)) (S.cons (S.ret (E.var 2))
 S.nil) S.nil)
 S.nil))
 (S.cons (S.ret E.kN)
 S.nil))⟩
def f_is_between : Fn := ⟨3, 3, (S.cons (S.ret (E.and (E.or (E.cmp .is (E.var 1) E.kN) (E.one (E.cmp .ge (E.var 0) (E.var 1)))) (E.one (E.or (E.cmp .is (E.var 2) E.kN) (E.one (E.cmp .le (E.var 0) (E.var 2)))))))
 S.nil)⟩
def f_fits_bounds : Fn := ⟨2, 3, (S.cons (S.asg (.nm 2) (E.idx (E.var 1) (E.kI 0)))
 (S.cons (S.ifs (E.cmp .eq (E.var 2) (E.kS "whole")) (S.cons (S.ret (E.call 32 (E.cons (E.var 0) (E.cons (E.idx (E.var 1) (E.kI 1)) (E.cons (E.idx (E.var 1) (E.kI 2)) E.nil)))))
 S.nil) S.nil)
 (S.cons (S.ifs (E.cmp .eq (E.var 2) (E.kS "text")) (S.cons (S.ret (E.call 32 (E.cons (E.bt .len (E.cons (E.var 0) E.nil)) (E.cons (E.idx (E.var 1) (E.kI 1)) (E.cons (E.idx (E.var 1) (E.kI 2)) E.nil)))))
 S.nil) S.nil)
 (S.cons (S.ifs (E.cmp .eq (E.var 2) (E.kS "truth")) (S.cons (S.ret (E.or (E.cmp .is (E.idx (E.var 1) (E.kI 1)) E.kN) (E.one (E.cmp .eq (E.var 0) (E.idx (E.var 1) (E.kI 1))))))
 S.nil) S.nil)
 (S.cons (S.ifs (E.cmp .eq (E.var 2) (E.kS "row")) (S.cons (S.ret (E.call 32 (E.cons (E.bt .len (E.cons (E.idx (E.var 0) (E.kI 1)) E.nil)) (E.cons (E.idx (E.var 1) (E.kI 2)) (E.cons (E.idx (E.var 1) (E.kI 3)) E.nil)))))
 S.nil) S.nil)
 (S.cons (S.ret (E.kB true))
 S.nil))))))⟩
def f_faults_of_pairs : Fn := ⟨3, 9, (S.cons (S.asg (.nm 3) (E.bt .dict (E.cons (E.lc (E.tup (E.cons (E.var 6) (E.cons (E.tup (E.cons (E.var 7) (E.cons (E.var 8) E.nil))) E.nil))) (.tp (.cons (.nm 6) (.cons (.nm 7) (.cons (.nm 8) .nil)))) (E.one (E.idx (E.var 0) (E.kI 1))) E.nil) E.nil)))
 (S.cons (S.asg (.nm 4) (E.bt .dict (E.cons (E.var 1) E.nil)))
 (S.cons (S.asg (.nm 5) (E.lst E.nil))
 (S.cons (S.for_ (.nm 6) (E.one (E.bt .sset (E.cons (E.op .add (E.bt .list (E.cons (E.var 3) E.nil)) (E.bt .list (E.cons (E.var 4) E.nil))) E.nil))) (S.cons (S.ifs (E.cmp .nin (E.var 6) (E.var 3)) (S.cons (S.ifs (E.not (E.idx (E.var 0) (E.kI 2))) (S.cons (S.app 5 (E.tup (E.cons (E.op .add (E.var 2) (E.tup (E.cons (E.var 6) E.nil))) (E.cons (E.kS "strange") E.nil))))
 S.nil) S.nil)
 S.nil) (S.cons (S.ifs (E.cmp .inn (E.var 6) (E.var 4)) (S.cons (S.ext 5 (E.call 35 (E.cons (E.idx (E.idx (E.var 3) (E.var 6)) (E.kI 0)) (E.cons (E.idx (E.var 4) (E.var 6)) (E.cons (E.op .add (E.var 2) (E.tup (E.cons (E.var 6) E.nil))) E.nil)))))
 S.nil) (S.cons (S.ifs (E.idx (E.idx (E.var 3) (E.var 6)) (E.kI 1)) (S.cons (S.app 5 (E.tup (E.cons (E.op .add (E.var 2) (E.tup (E.cons (E.var 6) E.nil))) (E.cons (E.kS "lacks") E.nil))))
 S.nil) S.nil)
 S.nil))
 S.nil))
 S.nil))
 (S.cons (S.ret (E.var 5))
 S.nil)))))⟩
def f_faults_in : Fn := ⟨3, 7, (S.cons (S.asg (.nm 3) (E.call 31 (E.cons (E.var 0) (E.cons (E.call 6 (E.cons (E.var 1) E.nil)) E.nil))))
 (S.cons (S.ifs (E.cmp .is (E.var 3) E.kN) (S.cons (S.ret (E.lst (E.cons (E.tup (E.cons (E.var 2) (E.cons (E.kS "sort") E.nil))) E.nil)))
 S.nil) S.nil)
 (S.cons (S.asg (.nm 4) (E.lst E.nil))
 (S.cons (S.ifs (E.not (E.call 33 (E.cons (E.var 1) (E.cons (E.var 3) E.nil)))) (S.cons (S.app 4 (E.tup (E.cons (E.var 2) (E.cons (E.kS "bounds") E.nil))))
 S.nil) S.nil)
 (S.cons (S.ifs (E.cmp .eq (E.idx (E.var 3) (E.kI 0)) (E.kS "row")) (S.cons (S.for_ (.tp (.cons (.nm 5) (.cons (.nm 6) .nil))) (E.enum (E.idx (E.var 1) (E.kI 1))) (S.cons (S.ext 4 (E.call 35 (E.cons (E.idx (E.var 3) (E.kI 1)) (E.cons (E.var 6) (E.cons (E.op .add (E.var 2) (E.tup (E.cons (E.var 5) E.nil))) E.nil)))))
 S.nil))
 S.nil) S.nil)
 (S.cons (S.ifs (E.cmp .eq (E.idx (E.var 3) (E.kI 0)) (E.kS "record")) (S.cons (S.ext 4 (E.call 34 (E.cons (E.var 3) (E.cons (E.idx (E.var 1) (E.kI 1)) (E.cons (E.var 2) E.nil)))))
 S.nil) S.nil)
 (S.cons (S.ret (E.var 4))
 S.nil)))))))⟩
def f_is_of : Fn := ⟨2, 2, (S.cons (S.ret (E.cmp .eq (E.call 35 (E.cons (E.var 1) (E.cons (E.var 0) (E.cons (E.tup E.nil) E.nil)))) (E.lst E.nil)))
 S.nil)⟩
def f__law_is_empty : Fn := ⟨1, 2, (S.cons (S.ret (E.bt .all (E.cons (E.lc (E.call 38 (E.cons (E.var 1) E.nil)) (.nm 1) (E.one (E.var 0)) E.nil) E.nil)))
 S.nil)⟩
def f__law_is_empty_part : Fn := ⟨1, 2, (S.cons (S.ifs (E.cmp .eq (E.idx (E.var 0) (E.kI 0)) (E.kS "row")) (S.cons (S.ret (E.and (E.cmp .gt (E.idx (E.var 0) (E.kI 2)) (E.kI 0)) (E.one (E.call 37 (E.cons (E.idx (E.var 0) (E.kI 1)) E.nil)))))
 S.nil) S.nil)
 (S.cons (S.ifs (E.cmp .eq (E.idx (E.var 0) (E.kI 0)) (E.kS "record")) (S.cons (S.ret (E.bt .any (E.cons (E.lc (E.and (E.idx (E.var 1) (E.kI 2)) (E.one (E.call 37 (E.cons (E.idx (E.var 1) (E.kI 1)) E.nil)))) (.nm 1) (E.one (E.idx (E.var 0) (E.kI 1))) E.nil) E.nil)))
 S.nil) S.nil)
 (S.cons (S.ret (E.kB false))
 S.nil)))⟩
def f__law_some : Fn := ⟨2, 8, (S.cons (S.asg (.nm 2) (E.lc (E.var 3) (.nm 3) (E.one (E.var 0)) (E.cons (E.not (E.call 37 (E.cons (E.tup (E.cons (E.var 3) E.nil)) E.nil))) E.nil)))
 (S.cons (S.asg (.nm 3) (E.idx (E.var 2) (E.call 8 (E.cons (E.var 1) (E.cons (E.kI 9817) (E.cons (E.bt .len (E.cons (E.var 2) E.nil)) E.nil))))))
 (S.cons (S.ifs (E.cmp .eq (E.idx (E.var 3) (E.kI 0)) (E.kS "whole")) (S.cons (S.asg (.nm 4) (E.idx (E.var 3) (E.kI 1)))
 (S.cons (S.ifs (E.cmp .is (E.var 4) E.kN) (S.cons (S.asg (.nm 4) (E.neg (E.kI 20)))
 (S.cons (S.ifs (E.cmp .isn (E.idx (E.var 3) (E.kI 2)) E.kN) (S.cons (S.asg (.nm 4) (E.op .sub (E.idx (E.var 3) (E.kI 2)) (E.kI 9)))
 S.nil) S.nil)
 S.nil)) S.nil)
 (S.cons (S.asg (.nm 5) (E.idx (E.var 3) (E.kI 2)))
 (S.cons (S.ifs (E.cmp .is (E.var 5) E.kN) (S.cons (S.asg (.nm 5) (E.op .add (E.var 4) (E.kI 30)))
 S.nil) S.nil)
 (S.cons (S.ret (E.op .add (E.var 4) (E.call 8 (E.cons (E.var 1) (E.cons (E.kI 9811) (E.cons (E.op .add (E.op .sub (E.var 5) (E.var 4)) (E.kI 1)) E.nil))))))
 S.nil))))) S.nil)
 (S.cons (S.ifs (E.cmp .eq (E.idx (E.var 3) (E.kI 0)) (E.kS "text")) (S.cons (S.ret (E.slc (E.kS "wxyzuvwabcdefghijk") E.kN (E.call 40 (E.cons (E.idx (E.var 3) (E.kI 1)) (E.cons (E.idx (E.var 3) (E.kI 2)) (E.cons (E.var 1) E.nil))))))
 S.nil) S.nil)
 (S.cons (S.ifs (E.cmp .eq (E.idx (E.var 3) (E.kI 0)) (E.kS "truth")) (S.cons (S.ret (E.idx (E.tup (E.cons (E.cmp .eq (E.op .mod (E.var 1) (E.kI 2)) (E.kI 0)) (E.cons (E.kB true) (E.cons (E.kB false) E.nil)))) (E.op .add (E.bt .int (E.cons (E.cmp .is (E.idx (E.var 3) (E.kI 1)) (E.kB true)) E.nil)) (E.op .mul (E.kI 2) (E.bt .int (E.cons (E.cmp .is (E.idx (E.var 3) (E.kI 1)) (E.kB false)) E.nil))))))
 S.nil) S.nil)
 (S.cons (S.ifs (E.cmp .eq (E.idx (E.var 3) (E.kI 0)) (E.kS "nothing")) (S.cons (S.ret E.kN)
 S.nil) S.nil)
 (S.cons (S.ifs (E.cmp .eq (E.idx (E.var 3) (E.kI 0)) (E.kS "row")) (S.cons (S.ifs (E.call 37 (E.cons (E.idx (E.var 3) (E.kI 1)) E.nil)) (S.cons (S.ret (E.tup (E.cons (E.kS "row") (E.cons (E.tup E.nil) E.nil))))
 S.nil) S.nil)
 (S.cons (S.asg (.nm 6) (E.call 40 (E.cons (E.idx (E.var 3) (E.kI 2)) (E.cons (E.idx (E.var 3) (E.kI 3)) (E.cons (E.var 1) E.nil)))))
 (S.cons (S.ret (E.tup (E.cons (E.kS "row") (E.cons (E.bt .tuple (E.cons (E.lc (E.call 39 (E.cons (E.idx (E.var 3) (E.kI 1)) (E.cons (E.op .add (E.op .add (E.var 1) (E.op .mul (E.kI 7) (E.var 7))) (E.kI 1)) E.nil))) (.nm 7) (E.rng1 (E.var 6)) E.nil) E.nil)) E.nil))))
 S.nil))) S.nil)
 (S.cons (S.ret (E.call 41 (E.cons (E.var 3) (E.cons (E.var 1) E.nil))))
 S.nil))))))))⟩
def f__law_many : Fn := ⟨3, 3, (S.cons (S.ifs (E.cmp .is (E.var 1) E.kN) (S.cons (S.asg (.nm 1) (E.op .add (E.var 0) (E.kI 2)))
 S.nil) S.nil)
 (S.cons (S.ret (E.op .add (E.var 0) (E.call 8 (E.cons (E.var 2) (E.cons (E.kI 9803) (E.cons (E.op .add (E.op .sub (E.var 1) (E.var 0)) (E.kI 1)) E.nil))))))
 S.nil))⟩
def f__law_some_record : Fn := ⟨2, 8, (S.cons (S.asg (.nm 2) E.dnew)
 (S.cons (S.for_ (.tp (.cons (.nm 3) (.cons (.tp (.cons (.nm 4) (.cons (.nm 5) (.cons (.nm 6) .nil)))) .nil))) (E.enum (E.idx (E.var 0) (E.kI 1))) (S.cons (S.ifs (E.or (E.var 6) (E.one (E.and (E.cmp .eq (E.call 8 (E.cons (E.op .add (E.var 1) (E.var 3)) (E.cons (E.kI 9791) (E.cons (E.kI 2) E.nil)))) (E.kI 0)) (E.one (E.not (E.call 37 (E.cons (E.var 5) E.nil))))))) (S.cons (S.dput 2 (E.var 4) (E.call 39 (E.cons (E.var 5) (E.cons (E.op .add (E.op .add (E.var 1) (E.op .mul (E.kI 11) (E.var 3))) (E.kI 2)) E.nil))))
 S.nil) S.nil)
 S.nil))
 (S.cons (S.ifs (E.and (E.idx (E.var 0) (E.kI 2)) (E.one (E.cmp .eq (E.call 8 (E.cons (E.var 1) (E.cons (E.kI 9787) (E.cons (E.kI 2) E.nil)))) (E.kI 0)))) (S.cons (S.asg (.nm 4) (E.call 9 (E.cons (E.op .add (E.var 1) (E.kI 3)) E.nil)))
 (S.cons (S.ifs (E.cmp .nin (E.var 4) (E.lc (E.idx (E.var 7) (E.kI 0)) (.nm 7) (E.one (E.idx (E.var 0) (E.kI 1))) E.nil)) (S.cons (S.dput 2 (E.var 4) (E.call 10 (E.cons (E.op .add (E.var 1) (E.kI 4)) (E.cons (E.kI 1) E.nil))))
 S.nil) S.nil)
 S.nil)) S.nil)
 (S.cons (S.ret (E.tup (E.cons (E.kS "record") (E.cons (E.bt .tuple (E.cons (E.lc (E.tup (E.cons (E.var 4) (E.cons (E.idx (E.var 2) (E.var 4)) E.nil))) (.nm 4) (E.one (E.bt .sorted (E.cons (E.var 2) E.nil))) E.nil) E.nil)) E.nil))))
 S.nil))))⟩
def f__law_near_v0 : Fn := ⟨2, 5, (S.cons (S.ifs (E.and (E.isi (E.var 0) [.tuple]) (E.and (E.cmp .eq (E.idx (E.var 0) (E.kI 0)) (E.kS "row")) (E.one (E.idx (E.var 0) (E.kI 1))))) (S.cons (S.asg (.nm 2) (E.call 8 (E.cons (E.var 1) (E.cons (E.kI 9781) (E.cons (E.bt .len (E.cons (E.idx (E.var 0) (E.kI 1)) E.nil)) E.nil)))))
 (S.cons (S.ret (E.tup (E.cons (E.kS "row") (E.cons (E.op .add (E.op .add (E.slc (E.idx (E.var 0) (E.kI 1)) E.kN (E.var 2)) (E.tup (E.cons (E.call 42 (E.cons (E.idx (E.idx (E.var 0) (E.kI 1)) (E.var 2)) (E.cons (E.op .add (E.var 1) (E.kI 1)) E.nil))) E.nil))) (E.slc (E.idx (E.var 0) (E.kI 1)) (E.op .add (E.var 2) (E.kI 1)) E.kN)) E.nil))))
 S.nil)) S.nil)
 (S.cons (S.ifs (E.and (E.isi (E.var 0) [.tuple]) (E.and (E.cmp .eq (E.idx (E.var 0) (E.kI 0)) (E.kS "record")) (E.one (E.idx (E.var 0) (E.kI 1))))) (S.cons (S.asg (.nm 2) (E.call 8 (E.cons (E.var 1) (E.cons (E.kI 9769) (E.cons (E.bt .len (E.cons (E.idx (E.var 0) (E.kI 1)) E.nil)) E.nil)))))
 (S.cons (S.ifs (E.cmp .eq (E.call 8 (E.cons (E.var 1) (E.cons (E.kI 9767) (E.cons (E.kI 3) E.nil)))) (E.kI 0)) (S.cons (S.ret (E.tup (E.cons (E.kS "record") (E.cons (E.op .add (E.slc (E.idx (E.var 0) (E.kI 1)) E.kN (E.var 2)) (E.slc (E.idx (E.var 0) (E.kI 1)) (E.op .add (E.var 2) (E.kI 1)) E.kN)) E.nil))))
 S.nil) S.nil)
 (S.cons (S.asg (.tp (.cons (.nm 3) (.cons (.nm 4) .nil))) (E.idx (E.idx (E.var 0) (E.kI 1)) (E.var 2)))
 (S.cons (S.ret (E.tup (E.cons (E.kS "record") (E.cons (E.op .add (E.op .add (E.slc (E.idx (E.var 0) (E.kI 1)) E.kN (E.var 2)) (E.tup (E.cons (E.tup (E.cons (E.var 3) (E.cons (E.call 42 (E.cons (E.var 4) (E.cons (E.op .add (E.var 1) (E.kI 2)) E.nil))) E.nil))) E.nil))) (E.slc (E.idx (E.var 0) (E.kI 1)) (E.op .add (E.var 2) (E.kI 1)) E.kN)) E.nil))))
 S.nil)))) S.nil)
 (S.cons (S.ret (E.call 10 (E.cons (E.var 1) (E.cons (E.kI 1) E.nil))))
 S.nil)))⟩
def f__law_same : Fn := ⟨2, 4, (S.cons (S.ifs (E.isi (E.var 1) [.tuple]) (S.cons (S.ifs (E.or (E.not (E.isi (E.var 0) [.tuple])) (E.one (E.cmp .ne (E.bt .len (E.cons (E.var 0) E.nil)) (E.bt .len (E.cons (E.var 1) E.nil))))) (S.cons (S.ret (E.kB false))
 S.nil) S.nil)
 (S.cons (S.ret (E.bt .all (E.cons (E.lc (E.call 45 (E.cons (E.var 2) (E.cons (E.var 3) E.nil))) (.tp (.cons (.nm 2) (.cons (.nm 3) .nil))) (E.zip (E.var 0) (E.var 1)) E.nil) E.nil)))
 S.nil)) S.nil)
 (S.cons (S.ifs (E.cmp .is (E.var 1) E.kN) (S.cons (S.ret (E.cmp .is (E.var 0) E.kN))
 S.nil) S.nil)
 (S.cons (S.ifs (E.or (E.isi (E.var 1) [.bool]) (E.one (E.isi (E.var 0) [.bool]))) (S.cons (S.ret (E.and (E.isi (E.var 1) [.bool]) (E.and (E.isi (E.var 0) [.bool]) (E.one (E.cmp .eq (E.var 0) (E.var 1))))))
 S.nil) S.nil)
 (S.cons (S.ret (E.and (E.isi (E.var 0) [.int, .str]) (E.one (E.cmp .eq (E.var 0) (E.var 1)))))
 S.nil))))⟩
def f__law_faults : Fn := ⟨3, 12, (S.cons (S.asg (.nm 3) (E.call 12 (E.cons (E.var 1) E.nil)))
 (S.cons (S.asg (.nm 4) (E.lc (E.var 5) (.nm 5) (E.one (E.var 0)) (E.cons (E.cmp .eq (E.idx (E.var 5) (E.kI 0)) (E.var 3)) E.nil)))
 (S.cons (S.ifs (E.not (E.var 4)) (S.cons (S.ret (E.lst (E.cons (E.tup (E.cons (E.var 2) (E.cons (E.kS "sort") E.nil))) E.nil)))
 S.nil) S.nil)
 (S.cons (S.asg (.nm 5) (E.idx (E.var 4) (E.kI 0)))
 (S.cons (S.asg (.nm 6) (E.lst E.nil))
 (S.cons (S.ifs (E.and (E.cmp .eq (E.var 3) (E.kS "whole")) (E.one (E.not (E.call 11 (E.cons (E.var 1) (E.cons (E.idx (E.var 5) (E.kI 1)) (E.cons (E.idx (E.var 5) (E.kI 2)) E.nil))))))) (S.cons (S.app 6 (E.tup (E.cons (E.var 2) (E.cons (E.kS "bounds") E.nil))))
 S.nil) S.nil)
 (S.cons (S.ifs (E.and (E.cmp .eq (E.var 3) (E.kS "truth")) (E.one (E.cmp .nin (E.idx (E.var 5) (E.kI 1)) (E.tup (E.cons E.kN (E.cons (E.var 1) E.nil)))))) (S.cons (S.app 6 (E.tup (E.cons (E.var 2) (E.cons (E.kS "bounds") E.nil))))
 S.nil) S.nil)
 (S.cons (S.ifs (E.and (E.cmp .eq (E.var 3) (E.kS "text")) (E.one (E.not (E.call 11 (E.cons (E.bt .len (E.cons (E.var 1) E.nil)) (E.cons (E.idx (E.var 5) (E.kI 1)) (E.cons (E.idx (E.var 5) (E.kI 2)) E.nil))))))) (S.cons (S.app 6 (E.tup (E.cons (E.var 2) (E.cons (E.kS "bounds") E.nil))))
 S.nil) S.nil)
 (S.cons (S.ifs (E.cmp .eq (E.var 3) (E.kS "row")) (S.cons (S.ifs (E.not (E.call 11 (E.cons (E.bt .len (E.cons (E.idx (E.var 1) (E.kI 1)) E.nil)) (E.cons (E.idx (E.var 5) (E.kI 2)) (E.cons (E.idx (E.var 5) (E.kI 3)) E.nil))))) (S.cons (S.app 6 (E.tup (E.cons (E.var 2) (E.cons (E.kS "bounds") E.nil))))
 S.nil) S.nil)
 (S.cons (S.for_ (.tp (.cons (.nm 8) (.cons (.nm 9) .nil))) (E.enum (E.idx (E.var 1) (E.kI 1))) (S.cons (S.ext 6 (E.call 47 (E.cons (E.idx (E.var 5) (E.kI 1)) (E.cons (E.var 9) (E.cons (E.op .add (E.var 2) (E.tup (E.cons (E.var 8) E.nil))) E.nil)))))
 S.nil))
 S.nil)) S.nil)
 (S.cons (S.ifs (E.cmp .eq (E.var 3) (E.kS "record")) (S.cons (S.for_ (.nm 7) (E.one (E.bt .sset (E.cons (E.op .add (E.lc (E.idx (E.var 10) (E.kI 0)) (.nm 10) (E.one (E.idx (E.var 5) (E.kI 1))) E.nil) (E.lc (E.idx (E.var 11) (E.kI 0)) (.nm 11) (E.one (E.idx (E.var 1) (E.kI 1))) E.nil)) E.nil))) (S.cons (S.ext 6 (E.call 48 (E.cons (E.var 5) (E.cons (E.var 1) (E.cons (E.var 2) (E.cons (E.var 7) E.nil))))))
 S.nil))
 S.nil) S.nil)
 (S.cons (S.ret (E.var 6))
 S.nil)))))))))))⟩
def f__law_faults_at : Fn := ⟨4, 8, (S.cons (S.asg (.nm 4) (E.lc (E.var 6) (.nm 6) (E.one (E.idx (E.var 0) (E.kI 1))) (E.cons (E.cmp .eq (E.idx (E.var 6) (E.kI 0)) (E.var 3)) E.nil)))
 (S.cons (S.asg (.nm 5) (E.lc (E.var 7) (.nm 7) (E.one (E.idx (E.var 1) (E.kI 1))) (E.cons (E.cmp .eq (E.idx (E.var 7) (E.kI 0)) (E.var 3)) E.nil)))
 (S.cons (S.ifs (E.and (E.var 4) (E.one (E.var 5))) (S.cons (S.ret (E.call 47 (E.cons (E.idx (E.idx (E.var 4) (E.kI 0)) (E.kI 1)) (E.cons (E.idx (E.idx (E.var 5) (E.kI 0)) (E.kI 1)) (E.cons (E.op .add (E.var 2) (E.tup (E.cons (E.var 3) E.nil))) E.nil)))))
 S.nil) S.nil)
 (S.cons (S.ifs (E.var 4) (S.cons (S.ret (E.op .mul (E.lst (E.cons (E.tup (E.cons (E.op .add (E.var 2) (E.tup (E.cons (E.var 3) E.nil))) (E.cons (E.kS "lacks") E.nil))) E.nil)) (E.bt .int (E.cons (E.idx (E.idx (E.var 4) (E.kI 0)) (E.kI 2)) E.nil))))
 S.nil) S.nil)
 (S.cons (S.ret (E.op .mul (E.lst (E.cons (E.tup (E.cons (E.op .add (E.var 2) (E.tup (E.cons (E.var 3) E.nil))) (E.cons (E.kS "strange") E.nil))) E.nil)) (E.bt .int (E.cons (E.not (E.idx (E.var 0) (E.kI 2))) E.nil))))
 S.nil)))))⟩
def f_is_empty_part : Fn := ⟨1, 4, (S.cons (S.ifs (E.cmp .eq (E.idx (E.var 0) (E.kI 0)) (E.kS "row")) (S.cons (S.ret (E.and (E.cmp .gt (E.idx (E.var 0) (E.kI 2)) (E.kI 0)) (E.one (E.call 51 (E.cons (E.idx (E.var 0) (E.kI 1)) E.nil)))))
 S.nil) S.nil)
 (S.cons (S.ifs (E.cmp .eq (E.idx (E.var 0) (E.kI 0)) (E.kS "record")) (S.cons (S.ret (E.bt .any (E.cons (E.lc (E.and (E.var 3) (E.one (E.call 51 (E.cons (E.var 2) E.nil)))) (.tp (.cons (.nm 1) (.cons (.nm 2) (.cons (.nm 3) .nil)))) (E.one (E.idx (E.var 0) (E.kI 1))) E.nil) E.nil)))
 S.nil) S.nil)
 (S.cons (S.ret (E.kB false))
 S.nil)))⟩
def f_is_empty : Fn := ⟨1, 2, (S.cons (S.ret (E.bt .all (E.cons (E.lc (E.call 50 (E.cons (E.var 1) E.nil)) (.nm 1) (E.one (E.var 0)) E.nil) E.nil)))
 S.nil)⟩
def f_bound_text : Fn := ⟨1, 1, (S.cons (S.ifs (E.cmp .is (E.var 0) E.kN) (S.cons (S.ret (E.kS ""))
 S.nil) S.nil)
 (S.cons (S.ret (E.bt .str (E.cons (E.var 0) E.nil)))
 S.nil))⟩
def f_bounds_text : Fn := ⟨1, 1, (S.cons (S.ret (E.op .add (E.op .add (E.call 86 (E.cons (E.idx (E.var 0) (E.kI 0)) E.nil)) (E.kS "..")) (E.call 86 (E.cons (E.idx (E.var 0) (E.kI 1)) E.nil))))
 S.nil)⟩
def f_field_text : Fn := ⟨1, 4, (S.cons (S.asg (.tp (.cons (.nm 1) (.cons (.nm 2) (.cons (.nm 3) .nil)))) (E.var 0))
 (S.cons (S.ret (E.op .add (E.op .add (E.op .add (E.op .add (E.var 1) (E.op .mul (E.kS "?") (E.bt .int (E.cons (E.not (E.var 3)) E.nil)))) (E.kS ": (")) (E.call 90 (E.cons (E.var 2) E.nil))) (E.kS ")")))
 S.nil))⟩
def f_part_text : Fn := ⟨1, 3, (S.cons (S.asg (.nm 1) (E.idx (E.var 0) (E.kI 0)))
 (S.cons (S.ifs (E.cmp .inn (E.var 1) (E.tup (E.cons (E.kS "whole") (E.cons (E.kS "text") E.nil)))) (S.cons (S.ret (E.op .add (E.op .add (E.var 1) (E.kS " ")) (E.call 87 (E.cons (E.slc (E.var 0) (E.kI 1) E.kN) E.nil))))
 S.nil) S.nil)
 (S.cons (S.ifs (E.cmp .eq (E.var 1) (E.kS "truth")) (S.cons (S.ifs (E.cmp .is (E.idx (E.var 0) (E.kI 1)) E.kN) (S.cons (S.ret (E.kS "truth"))
 S.nil) S.nil)
 (S.cons (S.ret (E.idx (E.tup (E.cons (E.kS "no") (E.cons (E.kS "yes") E.nil))) (E.bt .int (E.cons (E.idx (E.var 0) (E.kI 1)) E.nil))))
 S.nil)) S.nil)
 (S.cons (S.ifs (E.cmp .eq (E.var 1) (E.kS "nothing")) (S.cons (S.ret (E.kS "nothing"))
 S.nil) S.nil)
 (S.cons (S.ifs (E.cmp .eq (E.var 1) (E.kS "row")) (S.cons (S.ret (E.op .add (E.op .add (E.op .add (E.op .add (E.kS "row ") (E.call 87 (E.cons (E.slc (E.var 0) (E.kI 2) E.kN) E.nil))) (E.kS " of (")) (E.call 90 (E.cons (E.idx (E.var 0) (E.kI 1)) E.nil))) (E.kS ")")))
 S.nil) S.nil)
 (S.cons (S.ret (E.op .add (E.op .add (E.kS "record {") (E.bt .join (E.cons (E.kS ", ") (E.cons (E.op .add (E.lc (E.call 88 (E.cons (E.var 2) E.nil)) (.nm 2) (E.one (E.idx (E.var 0) (E.kI 1))) E.nil) (E.op .mul (E.lst (E.cons (E.kS "...") E.nil)) (E.bt .int (E.cons (E.idx (E.var 0) (E.kI 2)) E.nil)))) E.nil)))) (E.kS "}")))
 S.nil))))))⟩
def f_written : Fn := ⟨1, 2, (S.cons (S.ifs (E.not (E.var 0)) (S.cons (S.ret (E.kS "never"))
 S.nil) S.nil)
 (S.cons (S.ret (E.bt .join (E.cons (E.kS " | ") (E.cons (E.lc (E.call 89 (E.cons (E.var 1) E.nil)) (.nm 1) (E.one (E.var 0)) E.nil) E.nil))))
 S.nil))⟩
def f__law_ends : Fn := ⟨2, 3, (S.cons (S.asg (.nm 2) (E.kS ""))
 (S.cons (S.ifs (E.cmp .isn (E.var 0) E.kN) (S.cons (S.asg (.nm 2) (E.bt .str (E.cons (E.var 0) E.nil)))
 S.nil) S.nil)
 (S.cons (S.asg (.nm 2) (E.op .add (E.var 2) (E.kS "..")))
 (S.cons (S.ifs (E.cmp .isn (E.var 1) E.kN) (S.cons (S.asg (.nm 2) (E.op .add (E.var 2) (E.bt .str (E.cons (E.var 1) E.nil))))
 S.nil) S.nil)
 (S.cons (S.ret (E.var 2))
 S.nil)))))⟩
def f__law_written : Fn := ⟨1, 3, (S.cons (S.asg (.nm 1) (E.lst E.nil))
 (S.cons (S.for_ (.nm 2) (E.one (E.var 0)) (S.cons (S.ifs (E.cmp .inn (E.idx (E.var 2) (E.kI 0)) (E.tup (E.cons (E.kS "whole") (E.cons (E.kS "text") E.nil)))) (S.cons (S.app 1 (E.op .add (E.op .add (E.idx (E.var 2) (E.kI 0)) (E.kS " ")) (E.call 91 (E.cons (E.idx (E.var 2) (E.kI 1)) (E.cons (E.idx (E.var 2) (E.kI 2)) E.nil)))))
 S.nil) (S.cons (S.ifs (E.cmp .eq (E.idx (E.var 2) (E.kI 0)) (E.kS "truth")) (S.cons (S.app 1 (E.idx (E.lst (E.cons (E.kS "truth") (E.cons (E.kS "yes") (E.cons (E.kS "no") E.nil)))) (E.op .add (E.bt .int (E.cons (E.cmp .is (E.idx (E.var 2) (E.kI 1)) (E.kB true)) E.nil)) (E.op .mul (E.kI 2) (E.bt .int (E.cons (E.cmp .is (E.idx (E.var 2) (E.kI 1)) (E.kB false)) E.nil))))))
 S.nil) (S.cons (S.ifs (E.cmp .eq (E.idx (E.var 2) (E.kI 0)) (E.kS "row")) (S.cons (S.app 1 (E.op .add (E.op .add (E.op .add (E.op .add (E.kS "row ") (E.call 91 (E.cons (E.idx (E.var 2) (E.kI 2)) (E.cons (E.idx (E.var 2) (E.kI 3)) E.nil)))) (E.kS " of (")) (E.call 92 (E.cons (E.idx (E.var 2) (E.kI 1)) E.nil))) (E.kS ")")))
 S.nil) (S.cons (S.ifs (E.cmp .eq (E.idx (E.var 2) (E.kI 0)) (E.kS "record")) (S.cons (S.app 1 (E.op .add (E.op .add (E.kS "record {") (E.call 93 (E.cons (E.var 2) E.nil))) (E.kS "}")))
 S.nil) (S.cons (S.app 1 (E.kS "nothing"))
 S.nil))
 S.nil))
 S.nil))
 S.nil))
 S.nil))
 (S.cons (S.ifs (E.not (E.var 1)) (S.cons (S.ret (E.kS "never"))
 S.nil) S.nil)
 (S.cons (S.ret (E.bt .join (E.cons (E.kS " | ") (E.cons (E.var 1) E.nil))))
 S.nil))))⟩
def f__law_fields_text : Fn := ⟨1, 6, (S.cons (S.asg (.nm 1) (E.lst E.nil))
 (S.cons (S.for_ (.tp (.cons (.nm 2) (.cons (.nm 3) (.cons (.nm 4) .nil)))) (E.one (E.idx (E.var 0) (E.kI 1))) (S.cons (S.asg (.nm 5) (E.kS ""))
 (S.cons (S.ifs (E.not (E.var 4)) (S.cons (S.asg (.nm 5) (E.kS "?"))
 S.nil) S.nil)
 (S.cons (S.app 1 (E.op .add (E.op .add (E.op .add (E.op .add (E.var 2) (E.var 5)) (E.kS ": (")) (E.call 92 (E.cons (E.var 3) E.nil))) (E.kS ")")))
 S.nil))))
 (S.cons (S.ifs (E.idx (E.var 0) (E.kI 2)) (S.cons (S.app 1 (E.kS "..."))
 S.nil) S.nil)
 (S.cons (S.ret (E.bt .join (E.cons (E.kS ", ") (E.cons (E.var 1) E.nil))))
 S.nil))))⟩
def f_law_v9 : Fn := ⟨1, 7, (S.cons (S.for_ (.nm 1) (E.rng1 (E.kI 8)) (S.cons (S.asg (.nm 3) (E.op .add (E.call 7 (E.cons (E.var 0) (E.cons (E.var 1) E.nil))) (E.op .mul (E.kI 3) (E.var 1))))
 (S.cons (S.asg (.nm 4) (E.call 28 (E.cons (E.var 3) (E.cons (E.kI 4) E.nil))))
 (S.cons (S.for_ (.nm 5) (E.one (E.op .add (E.lst (E.cons (E.var 4) E.nil)) (E.lc (E.tup (E.cons (E.var 6) E.nil)) (.nm 6) (E.one (E.var 4)) E.nil))) (S.cons (S.ifs (E.not (E.call 45 (E.cons (E.call 90 (E.cons (E.var 5) E.nil)) (E.cons (E.call 92 (E.cons (E.var 5) E.nil)) E.nil)))) (S.cons (S.ret (E.kB false))
 S.nil) S.nil)
 S.nil))
 S.nil))))
 (S.cons (S.asg (.nm 2) (E.op .add (E.op .pow (E.kI 10) (E.kI 30)) (E.call 8 (E.cons (E.call 7 (E.cons (E.var 0) (E.cons (E.kI 8) E.nil))) (E.cons (E.kI 9811) (E.cons (E.kI 99) E.nil))))))
 (S.cons (S.ifs (E.cmp .ne (E.call 90 (E.cons (E.tup (E.cons (E.tup (E.cons (E.kS "whole") (E.cons (E.neg (E.var 2)) (E.cons (E.var 2) E.nil)))) E.nil)) E.nil)) (E.op .add (E.op .add (E.op .add (E.kS "whole -") (E.bt .str (E.cons (E.var 2) E.nil))) (E.kS "..")) (E.bt .str (E.cons (E.var 2) E.nil)))) (S.cons (S.ret (E.kB false))
 S.nil) S.nil)
 (S.cons (S.ret (E.and (E.cmp .eq (E.call 90 (E.cons (E.tup E.nil) E.nil)) (E.kS "never")) (E.one (E.cmp .eq (E.call 90 (E.cons (E.tup (E.cons (E.tup (E.cons (E.kS "record") (E.cons (E.tup E.nil) (E.cons (E.kB true) E.nil)))) E.nil)) E.nil)) (E.kS "record {...}")))))
 S.nil))))⟩
def M : Nat → Option Fn
  | 0 => some f_is_name
  | 1 => some f_rises
  | 2 => some f_is_named
  | 3 => some f_are_pairs
  | 4 => some f_is_value_in
  | 5 => some f_is_value
  | 6 => some f_sort_of
  | 7 => some f__law_cell
  | 8 => some f__law_mix
  | 9 => some f__law_name
  | 10 => some f__law_value
  | 11 => some f__law_between
  | 12 => some f__law_sort
  | 13 => some f__law_of
  | 14 => some f__law_fits
  | 16 => some f__law_no_values
  | 25 => some f__law_bounds
  | 26 => some f__law_fields
  | 27 => some f__law_part
  | 28 => some f__law_kind
  | 31 => some f_part_of
  | 32 => some f_is_between
  | 33 => some f_fits_bounds
  | 34 => some f_faults_of_pairs
  | 35 => some f_faults_in
  | 36 => some f_is_of
  | 37 => some f__law_is_empty
  | 38 => some f__law_is_empty_part
  | 39 => some f__law_some
  | 40 => some f__law_many
  | 41 => some f__law_some_record
  | 42 => some f__law_near_v0
  | 45 => some f__law_same
  | 47 => some f__law_faults
  | 48 => some f__law_faults_at
  | 50 => some f_is_empty_part
  | 51 => some f_is_empty
  | 86 => some f_bound_text
  | 87 => some f_bounds_text
  | 88 => some f_field_text
  | 89 => some f_part_text
  | 90 => some f_written
  | 91 => some f__law_ends
  | 92 => some f__law_written
  | 93 => some f__law_fields_text
  | 94 => some f_law_v9
  | _ => none
/-- the module's constants -/
def GC : Nat → Option D
  | 0 => some (.str "abcdefghijklmnopqrstuvwxyz")
  | 1 => some (.tuple [.str "whole", .str "text", .str "truth", .str "nothing", .str "row", .str "record"])
  | 2 => some (.int 9)
  | 3 => some (.tuple [.str "whole", .str "text", .str "truth", .str "nothing", .str "row", .str "record"])
  | _ => none
def XC : Nat → Str
  | 0 => "NoValue"
  | 1 => "NoText"
  | _ => "NoPart"
abbrev run : Nat → Nat → List D → Res D := callF GC XC M
end G7

namespace G7
open PySem
/-! ### plain facts of the small language -/
theorem callF_step {G : Nat → Option D} {X : Nat → Str} {M : Nat → Option Fn} {n f : Nat} {ds : List D} {fn : Fn} {r : Res D} (hM : M f = some fn) (hl : ds.length = fn.ps) (h : endD (exec G (callF G X M n) X fn.body (initE ds fn.n)) = r) : callF G X M (n + 1) f ds = r := by
  unfold callF
  rw [hM]
  show (if ds.length = fn.ps then _ else Res.bad) = r
  rw [if_pos hl]
  exact h
section
variable {α β : Type}
theorem b_ok (a : α) (f : α → Res β) : (Res.ok a).bind f = f a := rfl
theorem b_bad (f : α → Res β) : (Res.bad : Res α).bind f = .bad := rfl
theorem b_exc (c : Str) (f : α → Res β) : (Res.exc c : Res α).bind f = .exc c := rfl
theorem b_ite (p : Prop) [Decidable p] (a b : Res α) (f : α → Res β) : (if p then a else b).bind f = if p then a.bind f else b.bind f := by split <;> rfl
theorem of_some (a : α) : Res.of (some a) = .ok a := rfl
theorem of_none : Res.of (none : Option α) = .bad := rfl
theorem om_some (f : α → β) (a : α) : (some a).map f = some (f a) := rfl
theorem om_none (f : α → β) : (none : Option α).map f = none := rfl
theorem ob_some (f : α → Option β) (a : α) : (some a).bind f = f a := rfl
theorem calm_k (a : α) : calm (.ok a) = .ok a := rfl
end
theorem nc_lit (n : Nat) : (((no_index (OfNat.ofNat n) : Nat)) : Int) = (OfNat.ofNat n : Int) := rfl
theorem tr_b (b : Bool) : truth (.bool b) = b := rfl
theorem tr_n : truth .none = false := rfl
theorem tr_i (i : Int) : truth (.int i) = (i != 0) := rfl
theorem tr_l (xs : List D) : truth (.list xs) = !xs.isEmpty := rfl
theorem tr_t (xs : List D) : truth (.tuple xs) = !xs.isEmpty := rfl
theorem fl_ret (d : D) : endD (.ok (.ret d)) = .ok d := rfl
theorem fl_next (ρ : Env) : endD (.ok (.next ρ)) = .ok .none := rfl
theorem fl_ite (p : Prop) [Decidable p] (a b : Res Fl) : endD (if p then a else b) = if p then endD a else endD b := by split <;> rfl
theorem len_s (x : Str) : btD .len [.str x] = some (.int x.length) := rfl
theorem len_l (x : List D) : btD .len [.list x] = some (.int x.length) := rfl
theorem len_t (x : List D) : btD .len [.tuple x] = some (.int x.length) := rfl
theorem all_l (x : List D) : btD .all [.list x] = (boolsD x).map fun bs => .bool (bs.all id) := rfl
theorem any_l (x : List D) : btD .any [.list x] = (boolsD x).map fun bs => .bool (bs.any id) := rfl
theorem tup_l (x : List D) : btD .tuple [.list x] = some (.tuple x) := rfl
theorem int_b (b : Bool) : btD .int [.bool b] = some (.int (if b then 1 else 0)) := rfl
theorem srt_d (kvs : List (D × D)) : btD .sorted [.dict kvs] = srtD (kvs.map (·.1)) := rfl
theorem join_s (a : Str) (xs : List D) : btD .join [.str a, .list xs] = (strsD xs).bind fun ss => if (ss.map (·.length)).sum + ss.length * a.length ≤ sizeLine then some (.str (joinS a ss)) else none := rfl
theorem add_i (a b : Int) : addD (.int a) (.int b) = some (.int (a + b)) := rfl
theorem sub_i (a b : Int) : subD (.int a) (.int b) = some (.int (a - b)) := rfl
theorem lt_i (a b : Int) : ltD (.int a) (.int b) = some (decide (a < b)) := rfl
theorem lt_s (a b : Str) : ltD (.str a) (.str b) = some (ltS a b) := rfl
theorem mod_i {a b : Int} (h : 0 < b) : modD (.int a) (.int b) = some (.int (a % b)) := if_pos h
theorem mul_i {a b : Int} (h : (small64 a || small64 b) = true) : mulD (.int a) (.int b) = some (.int (a * b)) := if_pos h
theorem is_n (x : D) : isD x .none = some (match x with
    | .none => true
    | _ => false) := rfl
theorem is_b (x : D) (b : Bool) : isD x (.bool b) = some (match x with
    | .bool c => c == b
    | _ => false) := rfl
theorem eq_s (a b : Str) : eqD (.str a) (.str b) = some (decide (a = b)) := by
  unfold eqD
  rw [if_pos (by refine ⟨by unfold noD; rfl, by unfold noD; rfl, ?_⟩; simp [PyData.depth])]
  simp [PyData.eqv]
  rfl
theorem eq_i (a b : Int) : eqD (.int a) (.int b) = some (decide (a = b)) := by
  unfold eqD
  rw [if_pos (by refine ⟨by unfold noD; rfl, by unfold noD; rfl, ?_⟩; simp [PyData.depth])]
  simp [PyData.eqv]
  rfl
theorem tup_at (xs : List D) (i : Int) : idxD (.tuple xs) (.int i) = L2.atI xs i := rfl
theorem lst_at (xs : List D) (i : Int) : idxD (.list xs) (.int i) = L2.atI xs i := rfl
theorem str_at (x : Str) (i : Int) : idxD (.str x) (.int i) = (L2.atI x.cps.toList i).map fun c => .str ⟨#[c]⟩ := rfl
section
variable (G : Nat → Option D) (fe : Nat → List D → Res D) (ec : Nat → Str)
/-- a comprehension's turn, a loop's body: not looked into -/
def lcF (elt : E) (t : Tg) (cs : E) (ρ : Env) (x : D) : Res (Option D) := (bindT t x (wipeE ρ t.slots)).bind fun ρ1 => (evalC G fe cs ρ1).bind fun c => if c then (evalE G fe elt ρ1).bind fun y => .ok (some y) else .ok none
def bdF (b : S) (ρ : Env) : Res Fl := exec G fe ec b ρ
def wcF (c : E) (ρ : Env) : Res (Bool × Env) := (evalE G fe c ρ).bind fun d => .ok (truth d, frzE ρ (escB c))
theorem e_var (i : Nat) (ρ : Env) : evalE G fe (.var i) ρ = read ρ i := by unfold evalE; rfl
theorem e_glob (i : Nat) (ρ : Env) : evalE G fe (.glob i) ρ = .of (G i) := by unfold evalE; rfl
theorem e_kI (i : Int) (ρ : Env) : evalE G fe (.kI i) ρ = .ok (.int i) := by unfold evalE; rfl
theorem e_kS (i : Str) (ρ : Env) : evalE G fe (.kS i) ρ = .ok (.str i) := by unfold evalE; rfl
theorem e_kB (i : Bool) (ρ : Env) : evalE G fe (.kB i) ρ = .ok (.bool i) := by unfold evalE; rfl
theorem e_kN (ρ : Env) : evalE G fe .kN ρ = .ok .none := by unfold evalE; rfl
theorem e_tp (es : E) (ρ : Env) : evalE G fe (.tup es) ρ = (evalA G fe es ρ).bind fun ds => .ok (.tuple ds) := by conv => lhs; unfold evalE
theorem e_ls (es : E) (ρ : Env) : evalE G fe (.lst es) ρ = (evalA G fe es ρ).bind fun ds => .ok (.list ds) := by conv => lhs; unfold evalE
theorem e_dn (ρ : Env) : evalE G fe .dnew ρ = .ok (.dict []) := by unfold evalE; rfl
theorem e_op (o : Op2) (a b : E) (ρ : Env) : evalE G fe (.op o a b) ρ = (bor a ρ (evalE G fe a ρ)).bind fun x => (bor b ρ (evalE G fe b ρ)).bind fun y => .of (op2 o x y) := by conv => lhs; unfold evalE
theorem e_ng (a : E) (ρ : Env) : evalE G fe (.neg a) ρ = (evalE G fe a ρ).bind fun x => .of (negD x) := by conv => lhs; unfold evalE
theorem e_cmp (o : Cm) (a b : E) (ρ : Env) : evalE G fe (.cmp o a b) ρ = (bor a ρ (evalE G fe a ρ)).bind fun x => (bor b ρ (evalE G fe b ρ)).bind fun y => .of ((cmpD o x y).map .bool) := by conv => lhs; unfold evalE
theorem e_chn (o1 o2 : Cm) (a b c : E) (ρ : Env) : evalE G fe (.chain o1 o2 a b c) ρ = (bor a ρ (evalE G fe a ρ)).bind fun x => (bor b ρ (evalE G fe b ρ)).bind fun y => (Res.of (cmpD o1 x y)).bind fun k => if k then (bor c ρ (evalE G fe c ρ)).bind fun z => .of ((cmpD o2 y z).map .bool) else .ok (.bool false) := by conv => lhs; unfold evalE
theorem e_an (a b : E) (ρ : Env) : evalE G fe (.and a b) ρ = (evalE G fe a ρ).bind fun x => if truth x then evalE G fe b ρ else .ok x := by conv => lhs; unfold evalE
theorem e_orr (a b : E) (ρ : Env) : evalE G fe (.or a b) ρ = (evalE G fe a ρ).bind fun x => if truth x then .ok x else evalE G fe b ρ := by conv => lhs; unfold evalE
theorem e_on (a : E) (ρ : Env) : evalE G fe (.one a) ρ = evalE G fe a ρ := by conv => lhs; unfold evalE
theorem e_nt (a : E) (ρ : Env) : evalE G fe (.not a) ρ = (evalE G fe a ρ).bind fun x => .ok (.bool (!truth x)) := by conv => lhs; unfold evalE
theorem e_it (c a b : E) (ρ : Env) : evalE G fe (.ite c a b) ρ = (evalE G fe c ρ).bind fun x => if truth x then evalE G fe a ρ else evalE G fe b ρ := by conv => lhs; unfold evalE
theorem e_ix (a i : E) (ρ : Env) : evalE G fe (.idx a i) ρ = (bor a ρ (evalE G fe a ρ)).bind fun x => (evalE G fe i ρ).bind fun y => .of (idxD x y) := by conv => lhs; unfold evalE
theorem e_sl (a lo hi : E) (ρ : Env) : evalE G fe (.slc a lo hi) ρ = (bor a ρ (evalE G fe a ρ)).bind fun x => (bnd lo (evalE G fe lo ρ)).bind fun y => (bnd hi (evalE G fe hi ρ)).bind fun z => .of (slcD x y z) := by conv => lhs; unfold evalE
theorem e_cl (f : Nat) (es : E) (ρ : Env) : evalE G fe (.call f es) ρ = (evalA G fe es ρ).bind fun ds => fe f ds := by conv => lhs; unfold evalE
theorem e_bt (b : Bt) (es : E) (ρ : Env) : evalE G fe (.bt b es) ρ = (evalAB G fe es ρ).bind fun ds => .of (btD b ds) := by conv => lhs; unfold evalE
theorem e_is (a : E) (tys : List Ty) (ρ : Env) : evalE G fe (.isi a tys) ρ = (bor a ρ (evalE G fe a ρ)).bind fun x => .ok (.bool (tys.any fun t => isTy t x)) := by conv => lhs; unfold evalE
theorem e_lcm (elt : E) (t : Tg) (it cs : E) (ρ : Env) : evalE G fe (.lc elt t it cs) ρ = (evalI G fe it ρ).bind fun xs => (calm (lcLoop (lcF G fe elt t cs ρ) xs)).bind fun ys => .ok (.list ys) := by
  conv => lhs; unfold evalE
  try rfl
theorem x_nil (ρ : Env) : exec G fe ec .nil ρ = .ok (.next ρ) := by unfold exec; rfl
/-- the next statement's turn -/
def sq (G : Nat → Option D) (fe : Nat → List D → Res D) (ec : Nat → Str) (r : S) : Fl → Res Fl
  | .next ρ1 => exec G fe ec r ρ1
  | fl => .ok fl
theorem sq_n (r : S) (ρ : Env) : sq G fe ec r (.next ρ) = exec G fe ec r ρ := rfl
theorem sq_r (r : S) (d : D) : sq G fe ec r (.ret d) = .ok (.ret d) := rfl
theorem sq_c (r : S) (ρ : Env) : sq G fe ec r (.cont ρ) = .ok (.cont ρ) := rfl
theorem sq_b (r : S) (ρ : Env) : sq G fe ec r (.brk ρ) = .ok (.brk ρ) := rfl
theorem x_cons (s r : S) (ρ : Env) : exec G fe ec (.cons s r) ρ = (exec G fe ec s ρ).bind (sq G fe ec r) := by
  conv => lhs; unfold exec
  try rfl
theorem x_asg (i : Nat) (e : E) (ρ : Env) : exec G fe ec (.asg (.nm i) e) ρ = (evalE G fe e ρ).bind fun d => .ok (.next ((frzE ρ (esc e)).put i (some (if (fresh e && isCont d) = true then .own d else .dat d)))) := by conv => lhs; unfold exec
theorem x_asgT (t : Tg) (e : E) (ρ : Env) : exec G fe ec (.asg (.tp t) e) ρ = (evalE G fe e ρ).bind fun d => (bindT (.tp t) d (frzE ρ (esc e))).bind fun ρ1 => .ok (.next ρ1) := by conv => lhs; unfold exec
theorem x_ret (e : E) (ρ : Env) : exec G fe ec (.ret e) ρ = (evalE G fe e ρ).bind fun d => .ok (.ret d) := by conv => lhs; unfold exec
theorem x_retN (ρ : Env) : exec G fe ec .retN ρ = .ok (.ret .none) := by unfold exec; rfl
theorem x_if (c : E) (a b : S) (ρ : Env) : exec G fe ec (.ifs c a b) ρ = (evalE G fe c ρ).bind fun d => if truth d then exec G fe ec a (frzE ρ (escB c)) else exec G fe ec b (frzE ρ (escB c)) := by conv => lhs; unfold exec
theorem x_for (t : Tg) (it : E) (body : S) (ρ : Env) : exec G fe ec (.for_ t it body) ρ = (evalI G fe it ρ).bind fun xs => forLoop (bdF G fe ec body) t xs (frzE ρ (escJ it)) := by
  cases it with
  | one a => cases a <;> rfl
  | _ => rfl
theorem x_whl (c : E) (body : S) (ρ : Env) : exec G fe ec (.whl c body) ρ = whlLoop (wcF G fe c) (bdF G fe ec body) WF ρ := by
  conv => lhs; unfold exec
  try rfl
theorem x_app (i : Nat) (e : E) (ρ : Env) : exec G fe ec (.app i e) ρ = (ownL ρ i).bind fun xs => (evalE G fe e ρ).bind fun d => if i ∈ esc e then .bad else if xs.length < sizeLine then .ok (.next ((frzE ρ (esc e)).put i (some (.own (.list (xs ++ [d])))))) else .bad := by conv => lhs; unfold exec
theorem x_ext (i : Nat) (e : E) (ρ : Env) : exec G fe ec (.ext i e) ρ = (ownL ρ i).bind fun xs => (bor e ρ (evalE G fe e ρ)).bind fun d => if i ∈ escB e then .bad else match d with
    | .list ys => if xs.length + ys.length ≤ sizeLine then .ok (.next ((frzE ρ (escB e)).put i (some (.own (.list (xs ++ ys)))))) else .bad
    | _ => .bad := by
  conv => lhs; unfold exec
  try rfl
theorem x_dput (i : Nat) (k v : E) (ρ : Env) : exec G fe ec (.dput i k v) ρ = (ownK ρ i).bind fun kvs => (evalE G fe v ρ).bind fun y => (evalE G fe k ρ).bind fun x => if i ∈ esc v ++ esc k then .bad else match dKey x with
    | some key => if kvs.length < sizeLine then .ok (.next ((frzE ρ (esc v ++ esc k)).put i (some (.own (.dict (putD kvs key y)))))) else .bad
    | none => .bad := by
  conv => lhs; unfold exec
  try rfl
theorem x_pass (ρ : Env) : exec G fe ec .pass ρ = .ok (.next ρ) := by unfold exec; rfl
theorem x_cont (ρ : Env) : exec G fe ec .cont ρ = .ok (.cont ρ) := by unfold exec; rfl
theorem x_brk (ρ : Env) : exec G fe ec .brk ρ = .ok (.brk ρ) := by unfold exec; rfl
end
local macro_rules | `(tactic| dsimp! only [$xs,*]) => `(tactic| simp only [e_var, e_glob, e_kI, e_kS, e_kB, e_kN, e_tp, e_ls, e_dn, e_op, e_ng, e_cmp, e_chn, e_an, e_orr, e_on, e_nt, e_it, e_ix, e_sl, e_cl, e_bt, e_is, e_lcm, x_nil, x_cons, sq_n, sq_r, sq_c, sq_b, x_asg, x_asgT, x_ret, x_retN, x_if, x_for, x_whl, x_app, x_ext, x_dput, x_pass, x_cont, x_brk, evalA, evalAB, evalC, evalI, bnd, bor, view, read, Env.at, Env.put, b_ok, b_bad, b_exc, b_ite, of_some, of_none, om_some, om_none, ob_some, calm_k, tr_b, tr_n, tr_i, tr_l, tr_t, fl_ret, fl_next, fl_ite, len_s, len_l, len_t, tup_l, int_b, initE, List.map_cons, List.map_nil, List.length_cons, List.length_nil, List.cons_append, List.nil_append, List.replicate, frzE, esc, escA, escB, escAB, escI, escC, op2, add_i, sub_i, cmpD, lt_i, lt_s, is_n, is_b, eq_s, eq_i, tup_at, lst_at, str_at, Sl.d, fresh, isCont, Bool.false_and, Bool.and_false, Bool.true_and, Bool.and_true, if_true, if_false, ite_true, ite_false, Nat.reduceAdd, Nat.reduceSub, bindT, bindT.bindTs, wipeE, Tg.slots, List.any_cons, List.any_nil, isTy, escJ, Bool.or_false, Bool.false_or, Bool.or_true, Bool.true_or, Bool.not_true, Bool.not_false, Bool.false_eq_true, seqD, decide_true, decide_false, nc_lit, eq_self, Int.reduceEq, Nat.reduceEqDiff, and_self, and_true, true_and, $xs,*])
theorem lcLoop_map {f : D → Res (Option D)} {g : D → D} : ∀ {xs : List D}, (∀ x ∈ xs, f x = .ok (some (g x))) → lcLoop f xs = .ok (xs.map g)
  | [], _ => rfl
  | x :: r, h => by
    show (f x).bind _ = _
    rw [h x List.mem_cons_self]
    show (lcLoop f r).bind _ = _
    rw [lcLoop_map fun y hy => h y (List.mem_cons_of_mem _ hy)]
    rfl
theorem lcLoop_on {α : Type} {f : D → Res (Option D)} {i : α → D} {g : α → D} : ∀ {xs : List α}, (∀ x ∈ xs, f (i x) = .ok (some (g x))) → lcLoop f (xs.map i) = .ok (xs.map g)
  | [], _ => rfl
  | x :: r, h => by
    show (f (i x)).bind _ = _
    rw [h x List.mem_cons_self]
    show (lcLoop f (r.map i)).bind _ = _
    rw [lcLoop_on fun y hy => h y (List.mem_cons_of_mem _ hy)]
    rfl
theorem boolsD_map {α : Type} (b : α → Bool) : ∀ xs : List α, boolsD (xs.map fun x => .bool (b x)) = some (xs.map b)
  | [] => rfl
  | x :: r => by show (boolsD _).map _ = _; rw [boolsD_map b r]; rfl
theorem strsD_map {α : Type} (b : α → Str) : ∀ xs : List α, strsD (xs.map fun x => .str (b x)) = some (xs.map b)
  | [] => rfl
  | x :: r => by show (strsD _).map _ = _; rw [strsD_map b r]; rfl
theorem all_map {α : Type} (b : α → Bool) (xs : List α) : btD .all [.list (xs.map fun x => .bool (b x))] = some (.bool (xs.all b)) := by
  rw [all_l, boolsD_map]
  show some (PyData.bool ((xs.map b).all id)) = _
  rw [List.all_map]
  rfl
def lettersL : List Nat := (List.range 26).map (· + 97)
def isNameS (x : Str) : Bool := decide (1 ≤ x.length) && decide (x.length ≤ 6) && x.cps.toList.all fun c => decide (c ∈ lettersL)
def isNameD : D → Bool
  | .str x => isNameS x
  | _ => false
/-- rising, one by one -/
def risesL : List Str → Bool
  | [] => true
  | [_] => true
  | x :: y :: r => ltS x y && risesL (y :: r)
theorem letters_eq : (Str.cps "abcdefghijklmnopqrstuvwxyz").toList = lettersL := by decide +kernel
end G7

namespace G7
open PySem
local macro_rules | `(tactic| dsimp! only [$xs,*]) => `(tactic| simp only [e_var, e_glob, e_kI, e_kS, e_kB, e_kN, e_tp, e_ls, e_dn, e_op, e_ng, e_cmp, e_chn, e_an, e_orr, e_on, e_nt, e_it, e_ix, e_sl, e_cl, e_bt, e_is, e_lcm, x_nil, x_cons, sq_n, sq_r, sq_c, sq_b, x_asg, x_asgT, x_ret, x_retN, x_if, x_for, x_whl, x_app, x_ext, x_dput, x_pass, x_cont, x_brk, evalA, evalAB, evalC, evalI, bnd, bor, view, read, Env.at, Env.put, b_ok, b_bad, b_exc, b_ite, of_some, of_none, om_some, om_none, ob_some, calm_k, tr_b, tr_n, tr_i, tr_l, tr_t, fl_ret, fl_next, fl_ite, len_s, len_l, len_t, tup_l, int_b, initE, List.map_cons, List.map_nil, List.length_cons, List.length_nil, List.cons_append, List.nil_append, List.replicate, frzE, esc, escA, escB, escAB, escI, escC, op2, add_i, sub_i, cmpD, lt_i, lt_s, is_n, is_b, eq_s, eq_i, tup_at, lst_at, str_at, Sl.d, fresh, isCont, Bool.false_and, Bool.and_false, Bool.true_and, Bool.and_true, if_true, if_false, ite_true, ite_false, Nat.reduceAdd, Nat.reduceSub, bindT, bindT.bindTs, wipeE, Tg.slots, List.any_cons, List.any_nil, isTy, escJ, Bool.or_false, Bool.false_or, Bool.or_true, Bool.true_or, Bool.not_true, Bool.not_false, Bool.false_eq_true, seqD, decide_true, decide_false, nc_lit, eq_self, Int.reduceEq, Nat.reduceEqDiff, and_self, and_true, true_and, $xs,*])
/-- a loop that looks at each and goes back at the first that fails -/
theorem forLoop_chk {α : Type} {f : Env → Res Fl} {t : Tg} {r : D} {c : α → Bool} {i : α → D} (I : Env → Prop) : ∀ {xs : List α}, (∀ x ∈ xs, ∀ ρ, I ρ → ∃ ρ1, bindT t (i x) ρ = .ok ρ1 ∧ (c x = true → ∃ ρ2, f ρ1 = .ok (.next ρ2) ∧ I ρ2) ∧ (c x = false → f ρ1 = .ok (.ret r))) → ∀ ρ, I ρ →
    (xs.all c = true → ∃ ρ', forLoop f t (xs.map i) ρ = .ok (.next ρ') ∧ I ρ') ∧ (xs.all c = false → forLoop f t (xs.map i) ρ = .ok (.ret r))
  | [], _, ρ, h => ⟨fun _ => ⟨ρ, rfl, h⟩, fun z => by cases z⟩
  | x :: xs, h, ρ, hI => by
    obtain ⟨ρ1, hb, h1, h2⟩ := h x List.mem_cons_self ρ hI
    have e : forLoop f t ((x :: xs).map i) ρ = (f ρ1).bind fun fl => match fl with
        | .next ρ2 => forLoop f t (xs.map i) ρ2
        | .cont ρ2 => forLoop f t (xs.map i) ρ2
        | .brk ρ2 => .ok (.next ρ2)
        | .ret d => .ok (.ret d) := by
      show (bindT t (i x) ρ).bind _ = _
      rw [hb]
      rfl
    rw [List.all_cons, e]
    cases hc : c x with
    | true =>
      obtain ⟨ρ2, hf, hI2⟩ := h1 hc
      rw [hf, Bool.true_and]
      exact forLoop_chk I (fun y hy => h y (List.mem_cons_of_mem _ hy)) ρ2 hI2
    | false =>
      rw [h2 hc, Bool.false_and]
      exact ⟨fun z => (by cases z), fun _ => rfl⟩
theorem is_name_ok (n : Nat) (d : D) : callF GC XC M (n + 1) 0 [d] = .ok (.bool (isNameD d)) := by
  refine callF_step (fn := f_is_name) rfl rfl ?_
  unfold f_is_name
  cases d with
  | str x =>
    have key : ∀ ρ : Env, ρ = [some (.dat (.str x)), none] → lcLoop (lcF GC (callF GC XC M n) (E.cmp .inn (E.var 1) (E.glob 0)) (.nm 1) E.nil ρ) (List.map (fun c => PyData.str { cps := #[c] }) x.cps.toList) = .ok (x.cps.toList.map fun c => .bool (decide (c ∈ lettersL))) := by
      rintro ρ rfl
      refine lcLoop_on fun c _ => ?_
      unfold lcF
      dsimp! only [e_var]
      show Res.ok (some (PyData.bool (decide (c ∈ (Str.cps "abcdefghijklmnopqrstuvwxyz").toList)))) = _
      rw [letters_eq]
    dsimp! only [e_var]
    rw [key _ rfl]
    dsimp! only [e_var]
    rw [all_map]
    dsimp! only [e_var]
    show _ = Res.ok (PyData.bool (isNameS x))
    unfold isNameS
    by_cases h1 : 1 ≤ x.length
    · by_cases h2 : x.length ≤ 6
      · have e1 : (!decide ((x.length : Int) < 1)) = true := by simp; omega
        have e2 : (!decide (6 < (x.length : Int))) = true := by simp; omega
        simp only [e1, e2, if_true, h1, h2, decide_true, Bool.true_and]
        dsimp! only [e_var]
      · have e1 : (!decide ((x.length : Int) < 1)) = true := by simp; omega
        have e2 : (!decide (6 < (x.length : Int))) = false := by simp; omega
        simp only [e1, e2, if_true, h1, h2, decide_true, decide_false, Bool.true_and, Bool.false_and]
        dsimp! only [e_var]
    · have e1 : (!decide ((x.length : Int) < 1)) = false := by simp; omega
      simp only [e1, h1, decide_false, Bool.false_and]
      dsimp! only [e_var]
  | _ => rfl
theorem atI_nat {α : Type} {xs : List α} {i : Nat} (h : i < xs.length) : L2.atI xs (i : Int) = some xs[i] := by
  unfold L2.atI L2.ixN
  rw [if_pos (by omega), if_pos (by omega)]
  show xs[(i : Int).toNat]? = _
  simp [h]
theorem rises_all : ∀ ss : List Str, risesL ss = (List.range (ss.length - 1)).all fun k => ltS (ss.getD k "") (ss.getD (k + 1) "")
  | [] => rfl
  | [_] => rfl
  | x :: y :: r => by
    show (ltS x y && risesL (y :: r)) = _
    rw [rises_all (y :: r)]
    show _ = (List.range (r.length + 1)).all _
    rw [List.range_succ_eq_map, List.all_cons, List.all_map]
    rfl
theorem rngD_eq (lo : Int) (n : Nat) : rngD lo n = (List.range n).map fun k => .int (lo + (k : Nat)) := rfl
theorem rises_ok (n : Nat) (ss : List Str) (hl : ss.length ≤ 1000) : callF GC XC M (n + 1) 1 [.list (ss.map .str)] = .ok (.bool (risesL ss)) := by
  refine callF_step (fn := f_rises) rfl rfl ?_
  unfold f_rises
  have e1 : rngOk 1 ((List.map PyData.str ss).length : Nat) = true := by
    rw [List.length_map]
    unfold rngOk
    simp only [Bool.and_eq_true, decide_eq_true_eq]
    omega
  have e2 : (((List.map PyData.str ss).length : Nat) - 1 : Int).toNat = ss.length - 1 := by rw [List.length_map]; omega
  have key : ∀ ρ : Env, ρ = [some (.dat (.list (ss.map .str))), none] → lcLoop (lcF GC (callF GC XC M n) (E.cmp .lt (E.idx (E.var 0) (E.op .sub (E.var 1) (E.kI 1))) (E.idx (E.var 0) (E.var 1))) (.nm 1) E.nil ρ) (rngD 1 (ss.length - 1)) =
      .ok ((List.range (ss.length - 1)).map fun k => .bool (ltS (ss.getD k "") (ss.getD (k + 1) ""))) := by
    rintro ρ rfl
    rw [rngD_eq]
    refine lcLoop_on fun k hk => ?_
    have hk : k < ss.length - 1 := List.mem_range.mp hk
    have i1 : (1 + (k : Int) - 1) = ((k : Nat) : Int) := by omega
    have i2 : (1 + (k : Int)) = ((k + 1 : Nat) : Int) := by omega
    have g1 : L2.atI (List.map PyData.str ss) ((k : Nat) : Int) = some (.str (ss.getD k "")) := by
      rw [atI_nat (by rw [List.length_map]; omega)]
      simp [List.getElem?_eq_getElem (show k < ss.length by omega)]
    have g2 : L2.atI (List.map PyData.str ss) ((k + 1 : Nat) : Int) = some (.str (ss.getD (k + 1) "")) := by
      rw [atI_nat (by rw [List.length_map]; omega)]
      simp [List.getElem?_eq_getElem (show k + 1 < ss.length by omega)]
    unfold lcF
    dsimp! only [e_var]
    rw [i1, i2, g1, g2]
    dsimp! only [e_var]
  dsimp! only [e_var]
  rw [e2, key _ rfl, if_pos e1]
  dsimp! only [e_var]
  rw [all_map]
  dsimp! only [e_var]
  rw [rises_all]
def goodRow (size : Nat) : D → Bool
  | .tuple ys => decide (ys.length = size) && (match ys with
      | y :: _ => isNameD y
      | [] => false)
  | _ => false
def headS : D → Str
  | .tuple (.str x :: _) => x
  | _ => ""
def isNamed (size : Nat) : D → Bool
  | .tuple xs => xs.all (goodRow size) && risesL (xs.map headS)
  | _ => false
theorem good_head {size : Nat} {d : D} (h : goodRow size d = true) : ∃ x ys, d = .tuple (.str x :: ys) ∧ headS d = x := by
  cases d with
  | tuple ys =>
    cases ys with
    | nil => simp [goodRow] at h
    | cons y ys =>
      cases y with
      | str x => exact ⟨x, ys, rfl, rfl⟩
      | _ => simp [goodRow, isNameD] at h
  | _ => cases h
theorem is_named_ok (n size : Nat) (hs : 1 ≤ size) (d : D) (hd : ∀ xs, d = .tuple xs → xs.length ≤ 1000) : callF GC XC M (n + 2) 2 [d, .int size] = .ok (.bool (isNamed size d)) := by
  refine callF_step (fn := f_is_named) rfl rfl ?_
  unfold f_is_named
  cases d with
  | tuple xs =>
    have hlen := hd xs rfl
    have loop := forLoop_chk (f := bdF GC (callF GC XC M (n + 1)) XC (S.cons (S.ifs (E.or (E.not (E.isi (E.var 2) [.tuple])) (E.or (E.cmp .ne (E.bt .len (E.cons (E.var 2) E.nil)) (E.var 1)) (E.one (E.not (E.call 0 (E.cons (E.idx (E.var 2) (E.kI 0)) E.nil)))))) (S.cons (S.ret (E.kB false)) S.nil) S.nil) S.nil)) (t := .nm 2) (r := .bool false) (c := goodRow size) (i := id) (xs := xs)
      (fun ρ => ∃ o, ρ = [some (.dat (.tuple xs)), some (.dat (.int size)), o]) (by
        rintro x hx ρ ⟨o, rfl⟩
        refine ⟨_, rfl, fun hc => ?_, fun hc => ?_⟩
        · obtain ⟨z, ys, rfl, _⟩ := good_head hc
          simp only [goodRow, Bool.and_eq_true, decide_eq_true_eq] at hc
          refine ⟨_, ?_, some (.dat (.tuple (.str z :: ys))), rfl⟩
          unfold bdF
          have e1 : (((ys.length + 1 : Nat) : Int) = (size : Int)) := by rw [← hc.1]; rfl
          have e2 : L2.atI (PyData.str z :: ys) 0 = some (.str z) := atI_nat (i := 0) (by simp)
          simp only [id]
          dsimp! only [e_var]
          simp only [e1, e2, decide_true, is_name_ok, hc.2]
          dsimp! only [e_var]
          rw [is_name_ok, hc.2]
          dsimp! only [e_var]
        · unfold bdF
          simp only [id]
          cases x with
          | tuple ys =>
            by_cases hl : ys.length = size
            · cases ys with
              | nil => simp at hl; omega
              | cons y ys =>
                have e1 : (((ys.length + 1 : Nat) : Int) = (size : Int)) := by rw [← hl]; rfl
                have e2 : L2.atI (y :: ys) 0 = some y := atI_nat (i := 0) (by simp)
                have e3 : isNameD y = false := by
                  simp only [goodRow, hl, decide_true, Bool.true_and] at hc
                  exact hc
                dsimp! only [e_var]
                simp only [e1, e2, decide_true]
                dsimp! only [e_var]
                rw [is_name_ok, e3]
                dsimp! only [e_var]
            · have e1 : ¬ ((ys.length : Int) = (size : Int)) := by omega
              dsimp! only [e_var]
              simp only [e1, decide_false]
              dsimp! only [e_var]
          | _ => rfl) [some (.dat (.tuple xs)), some (.dat (.int size)), none] ⟨_, rfl⟩
    rw [List.map_id] at loop
    dsimp! only [e_var]
    cases hall : xs.all (goodRow size) with
    | false =>
      rw [loop.2 hall]
      dsimp! only [e_var]
      show _ = Res.ok (PyData.bool (xs.all (goodRow size) && _))
      rw [hall]
      rfl
    | true =>
      obtain ⟨ρ', e, o, rfl⟩ := loop.1 hall
      rw [e]
      have key : ∀ ρ : Env, ρ.length = 3 → lcLoop (lcF GC (callF GC XC M (n + 1)) (E.idx (E.var 2) (E.kI 0)) (.nm 2) E.nil ρ) xs = .ok (xs.map fun x => .str (headS x)) := by
        intro ρ hρ
        refine lcLoop_map fun x hx => ?_
        obtain ⟨z, ys, rfl, hz⟩ := good_head (List.all_eq_true.mp hall x hx)
        have e2 : L2.atI (PyData.str z :: ys) 0 = some (.str z) := atI_nat (i := 0) (by simp)
        rcases ρ with _ | ⟨a, _ | ⟨b, _ | ⟨c, _ | ⟨_, _⟩⟩⟩⟩ <;> simp at hρ
        unfold lcF
        dsimp! only [e_var]
        rw [e2, hz]
        dsimp! only [e_var]
      dsimp! only [e_var]
      rw [key _ rfl]
      dsimp! only [e_var]
      have e3 : (xs.map fun x => PyData.str (headS x)) = (xs.map headS).map .str := by rw [List.map_map]; rfl
      rw [e3, rises_ok _ _ (by rw [List.length_map]; exact hlen)]
      dsimp! only [e_var]
      show _ = Res.ok (PyData.bool (xs.all (goodRow size) && _))
      rw [hall]
      rfl
  | _ => rfl
/-! ### values -/
def isVal : Nat → D → Bool
  | _, .none => true
  | _, .int _ => true
  | _, .bool _ => true
  | _, .str _ => true
  | 0, _ => false
  | deep + 1, .tuple [.str z, w] => if z = "record" then isNamed 2 w && (match w with
      | .tuple ps => ps.all fun p => match p with
        | .tuple [_, v] => isVal deep v
        | _ => false
      | _ => false)
    else decide (z = "row") && (match w with
      | .tuple vs => vs.all (isVal deep)
      | _ => false)
  | _, _ => false
end G7

namespace G7
open PySem
local macro_rules | `(tactic| dsimp! only [$xs,*]) => `(tactic| simp only [e_var, e_glob, e_kI, e_kS, e_kB, e_kN, e_tp, e_ls, e_dn, e_op, e_ng, e_cmp, e_chn, e_an, e_orr, e_on, e_nt, e_it, e_ix, e_sl, e_cl, e_bt, e_is, e_lcm, x_nil, x_cons, sq_n, sq_r, sq_c, sq_b, x_asg, x_asgT, x_ret, x_retN, x_if, x_for, x_whl, x_app, x_ext, x_dput, x_pass, x_cont, x_brk, evalA, evalAB, evalC, evalI, bnd, bor, view, read, Env.at, Env.put, b_ok, b_bad, b_exc, b_ite, of_some, of_none, om_some, om_none, ob_some, calm_k, tr_b, tr_n, tr_i, tr_l, tr_t, fl_ret, fl_next, fl_ite, len_s, len_l, len_t, tup_l, int_b, initE, List.map_cons, List.map_nil, List.length_cons, List.length_nil, List.cons_append, List.nil_append, List.replicate, frzE, esc, escA, escB, escAB, escI, escC, op2, add_i, sub_i, cmpD, lt_i, lt_s, is_n, is_b, eq_s, eq_i, tup_at, lst_at, str_at, Sl.d, fresh, isCont, Bool.false_and, Bool.and_false, Bool.true_and, Bool.and_true, if_true, if_false, ite_true, ite_false, Nat.reduceAdd, Nat.reduceSub, bindT, bindT.bindTs, wipeE, Tg.slots, List.any_cons, List.any_nil, isTy, escJ, Bool.or_false, Bool.false_or, Bool.or_true, Bool.true_or, Bool.not_true, Bool.not_false, Bool.false_eq_true, seqD, decide_true, decide_false, nc_lit, eq_self, Int.reduceEq, Nat.reduceEqDiff, and_self, and_true, true_and, $xs,*])
mutual
def slim : D → Bool
  | .tuple xs => decide (xs.length ≤ 1000) && slims xs
  | _ => true
def slims : List D → Bool
  | [] => true
  | x :: r => slim x && slims r
end
theorem slims_mem : ∀ {xs : List D}, slims xs = true → ∀ x ∈ xs, slim x = true
  | [], _, _, h => by cases h
  | y :: r, h, x, hx => by
    unfold slims at h
    simp only [Bool.and_eq_true] at h
    rcases List.mem_cons.mp hx with rfl | hx
    · exact h.1
    · exact slims_mem h.2 x hx
theorem slim_tup {xs : List D} (h : slim (.tuple xs) = true) : xs.length ≤ 1000 ∧ ∀ x ∈ xs, slim x = true := by
  unfold slim at h
  simp only [Bool.and_eq_true, decide_eq_true_eq] at h
  exact ⟨h.1, slims_mem h.2⟩
/-- the pairs of a record -/
def pairVal (deep : Nat) : D → Bool
  | .tuple [_, v] => isVal deep v
  | _ => false
def pairsVal (deep : Nat) : D → Bool
  | .tuple ps => isNamed 2 (.tuple ps) && ps.all (pairVal deep)
  | _ => false
theorem are_pairs_ok (deep n : Nat) (ih : ∀ d, slim d = true → callF GC XC M (n + 2) 4 [d, .int deep] = .ok (.bool (isVal deep d))) (d : D) (hd : slim d = true) : callF GC XC M (n + 3) 3 [d, .int deep] = .ok (.bool (pairsVal deep d)) := by
  refine callF_step (fn := f_are_pairs) rfl rfl ?_
  unfold f_are_pairs
  dsimp! only [e_var]
  have hn := is_named_ok n 2 (by omega) d (fun xs e => by subst e; exact (slim_tup hd).1)
  have hn : callF GC XC M (n + 2) 2 [d, .int 2] = .ok (.bool (isNamed 2 d)) := hn
  rw [hn]
  dsimp! only [e_var]
  cases h : isNamed 2 d with
  | false =>
    dsimp! only [e_var]
    cases d with
    | tuple ps => show _ = Res.ok (PyData.bool (isNamed 2 (.tuple ps) && _)); rw [h]; rfl
    | _ => rfl
  | true =>
    cases d with
    | tuple ps =>
      obtain ⟨_, hm⟩ := slim_tup hd
      have hrow : ∀ x ∈ ps, goodRow 2 x = true := by
        have : (ps.all (goodRow 2) && risesL (ps.map headS)) = true := h
        simp only [Bool.and_eq_true, List.all_eq_true] at this
        exact this.1
      have key : ∀ ρ : Env, ρ = [some (.dat (.tuple ps)), some (.dat (.int deep)), none, none] → lcLoop (lcF GC (callF GC XC M (n + 2)) (E.call 4 (E.cons (E.var 3) (E.cons (E.var 1) E.nil))) (.tp (.cons (.nm 2) (.cons (.nm 3) .nil))) E.nil ρ) ps = .ok (ps.map fun p => .bool (pairVal deep p)) := by
        rintro ρ rfl
        refine lcLoop_map fun p hp => ?_
        have hg := hrow p hp
        have hsl := hm p hp
        cases p with
        | tuple ys =>
          rcases ys with _ | ⟨a, _ | ⟨b, _ | ⟨_, _⟩⟩⟩
          · simp [goodRow] at hg
          · simp [goodRow] at hg
          · have hb := (slim_tup hsl).2 b (by simp)
            unfold lcF
            dsimp! only [e_var]
            rw [ih b hb]
            dsimp! only [e_var]
            rfl
          · simp [goodRow] at hg
        | _ => cases hg
      dsimp! only [e_var]
      rw [key _ rfl]
      dsimp! only [e_var]
      rw [all_map]
      dsimp! only [e_var]
      show _ = Res.ok (PyData.bool (isNamed 2 (.tuple ps) && _))
      rw [h]
      rfl
    | _ => cases h
theorem isVal_tup (deep : Nat) (z : Str) (w : D) : isVal (deep + 1) (.tuple [.str z, w]) = if z = "record" then pairsVal deep w else decide (z = "row") && (match w with
      | .tuple vs => vs.all (isVal deep)
      | _ => false) := by
  conv => lhs; unfold isVal
  split
  · cases w with
    | tuple ps =>
      show _ = (isNamed 2 (.tuple ps) && ps.all (pairVal deep))
      congr 1
    | _ => rfl
  · rfl
theorem is_value_in_ok : ∀ (deep k : Nat) (d : D), 2 * deep + 4 ≤ k → slim d = true → callF GC XC M k 4 [d, .int deep] = .ok (.bool (isVal deep d)) := by
  intro deep
  induction deep with
  | zero =>
    intro k d hk hd
    obtain ⟨n, rfl⟩ : ∃ n, k = n + 1 := ⟨k - 1, by omega⟩
    refine callF_step (fn := f_is_value_in) rfl rfl ?_
    unfold f_is_value_in
    cases d with
    | tuple xs =>
      dsimp! only [e_var]
      rfl
    | _ => rfl
  | succ deep ih =>
    intro k d hk hd
    obtain ⟨n, rfl⟩ : ∃ n, k = n + 4 := ⟨k - 4, by omega⟩
    refine callF_step (fn := f_is_value_in) rfl rfl ?_
    unfold f_is_value_in
    have hz : ¬ (((deep + 1 : Nat) : Int) = 0) := by omega
    have hm1 : ((deep + 1 : Nat) : Int) - 1 = (deep : Nat) := by omega
    cases d with
    | tuple xs =>
      obtain ⟨_, hm⟩ := slim_tup hd
      rcases xs with _ | ⟨a, _ | ⟨b, _ | ⟨c, r⟩⟩⟩
      · dsimp! only [e_var]
        simp only [hz, decide_false]
        rfl
      · dsimp! only [e_var]
        simp only [hz, decide_false]
        cases a <;> rfl
      · have e0 : L2.atI [a, b] 0 = some a := rfl
        have e1 : L2.atI [a, b] 1 = some b := rfl
        have hb := hm b (by simp)
        cases a with
        | str z =>
          rw [isVal_tup]
          have two : ¬ (2 : Nat) ≠ 2 := by omega
          by_cases hr : z = "record"
          · have hap := are_pairs_ok deep n (fun d hd => ih (n + 2) d (by omega) hd) b hb
            dsimp! only [hz, e0, e1, hm1]
            dsimp! only [hz, e0, e1, hm1, hr, hap]
          · dsimp! only [hz, e0, e1, hm1, hr]
            by_cases hw : z = "row"
            · cases b with
              | tuple vs =>
                have hv := (slim_tup hb).2
                have key : ∀ ρ : Env, ρ = [some (.dat (.tuple [.str z, .tuple vs])), some (.dat (.int ((deep + 1 : Nat) : Int))), none] → lcLoop (lcF GC (callF GC XC M (n + 3)) (E.call 4 (E.cons (E.var 2) (E.cons (E.op .sub (E.var 1) (E.kI 1)) E.nil))) (.nm 2) E.nil ρ) vs = .ok (vs.map fun v => .bool (isVal deep v)) := by
                  rintro ρ rfl
                  refine lcLoop_map fun v hv' => ?_
                  unfold lcF
                  dsimp! only [hm1, ih (n + 3) v (by omega) (hv v hv')]
                dsimp! only [hw, key _ rfl]
                rw [← hw, key _ rfl]
                dsimp! only [e_var]
                rw [all_map]
                dsimp! only [hw]
              | _ => dsimp! only [hw]
            · dsimp! only [hw]
        | _ => (dsimp! only [hz, e0]; first | rfl | (unfold isVal; rfl))
      · have : ¬ ((((r.length + 1 + 1 + 1 : Nat)) : Int) = 2) := by omega
        dsimp! only [hz, this]
        cases a <;> rfl
    | _ => rfl
end G7

namespace G7
open PySem
local macro_rules | `(tactic| dsimp! only [$xs,*]) => `(tactic| simp only [e_var, e_glob, e_kI, e_kS, e_kB, e_kN, e_tp, e_ls, e_dn, e_op, e_ng, e_cmp, e_chn, e_an, e_orr, e_on, e_nt, e_it, e_ix, e_sl, e_cl, e_bt, e_is, e_lcm, x_nil, x_cons, sq_n, sq_r, sq_c, sq_b, x_asg, x_asgT, x_ret, x_retN, x_if, x_for, x_whl, x_app, x_ext, x_dput, x_pass, x_cont, x_brk, evalA, evalAB, evalC, evalI, bnd, bor, view, read, Env.at, Env.put, b_ok, b_bad, b_exc, b_ite, of_some, of_none, om_some, om_none, ob_some, calm_k, tr_b, tr_n, tr_i, tr_l, tr_t, fl_ret, fl_next, fl_ite, len_s, len_l, len_t, tup_l, int_b, initE, List.map_cons, List.map_nil, List.length_cons, List.length_nil, List.cons_append, List.nil_append, List.replicate, frzE, esc, escA, escB, escAB, escI, escC, op2, add_i, sub_i, cmpD, lt_i, lt_s, is_n, is_b, eq_s, eq_i, tup_at, lst_at, str_at, Sl.d, fresh, isCont, Bool.false_and, Bool.and_false, Bool.true_and, Bool.and_true, if_true, if_false, ite_true, ite_false, Nat.reduceAdd, Nat.reduceSub, bindT, bindT.bindTs, wipeE, Tg.slots, List.any_cons, List.any_nil, isTy, escJ, Bool.or_false, Bool.false_or, Bool.or_true, Bool.true_or, Bool.not_true, Bool.not_false, Bool.false_eq_true, seqD, decide_true, decide_false, nc_lit, eq_self, Int.reduceEq, Nat.reduceEqDiff, and_self, and_true, true_and, $xs,*])
def mixI (c p m : Int) : Int := c * 48271 % p % m
theorem mixI_lo {c p m : Int} (hm : 0 < m) : 0 ≤ mixI c p m := Int.emod_nonneg _ (by omega)
theorem mixI_hi {c p m : Int} (hm : 0 < m) : mixI c p m < m := Int.emod_lt_of_pos _ hm
theorem mix_ok (n : Nat) (c p m : Int) (hp : 0 < p) (hm : 0 < m) : callF GC XC M (n + 1) 8 [.int c, .int p, .int m] = .ok (.int (mixI c p m)) := by
  refine callF_step (fn := f__law_mix) rfl rfl ?_
  unfold f__law_mix
  have h : (small64 c || small64 48271) = true := by rw [show small64 48271 = true from by decide]; simp
  dsimp! only [mul_i h, mod_i hp, mod_i hm]
  rfl
theorem cell_ok (n : Nat) (ns : List Int) (k : Nat) : callF GC XC M (n + 1) 7 [intsD' ns, .int k] = .ok (.int (ns.getD k 0)) := by
  refine callF_step (fn := f__law_cell) rfl rfl ?_
  unfold f__law_cell intsD'
  dsimp! only [e_var]
  by_cases h : k < ns.length
  · have h' : ((k : Int) < ((List.map PyData.int ns).length : Nat)) := by rw [List.length_map]; omega
    have e : L2.atI (List.map PyData.int ns) (k : Int) = some (.int (ns.getD k 0)) := by
      rw [atI_nat (by rw [List.length_map]; exact h)]
      simp [List.getElem?_eq_getElem h]
    dsimp! only [h', e]
  · have h' : ¬ ((k : Int) < ((List.map PyData.int ns).length : Nat)) := by rw [List.length_map]; omega
    have e : ns.getD k 0 = 0 := by simp [List.getElem?_eq_none (show ns.length ≤ k by omega)]
    dsimp! only [h', e]
theorem atI_let {i : Int} (h0 : 0 ≤ i) (h1 : i < 26) : L2.atI lettersL i = some (i.toNat + 97) := by
  obtain ⟨k, rfl⟩ : ∃ k : Nat, i = (k : Int) := ⟨i.toNat, by omega⟩
  have hk : k < 26 := by omega
  rw [atI_nat (by show k < ((List.range 26).map (· + 97)).length; simpa using hk)]
  simp [lettersL]
/-- the signs of a name -/
def nameL (c : Int) : List Nat := if 0 < c % 3 then [(mixI c 9973 4).toNat + 97] else (List.range (1 + mixI c 9949 6).toNat).map fun k => (mixI (c + 7 * (k : Nat)) 9967 26).toNat + 97
theorem join_chars (chs : List Nat) : joinS "" (chs.map fun c => ⟨#[c]⟩) = ⟨chs.toArray⟩ := by
  have app : ∀ (chs : List Nat) (acc : Str), (chs.map fun c => (⟨#[c]⟩ : Str)).foldl (fun acc p => acc ++ ("" : Str) ++ p) acc = ⟨acc.cps ++ chs.toArray⟩ := by
    intro chs
    induction chs with
    | nil => intro acc; simp
    | cons c r ih =>
      intro acc
      rw [List.map_cons, List.foldl_cons, ih]
      show Str.mk ((acc.cps ++ (#[] : Array Nat)) ++ #[c] ++ r.toArray) = _
      simp
  cases chs with
  | nil => rfl
  | cons c r =>
    show (r.map fun c => (⟨#[c]⟩ : Str)).foldl (fun acc p => acc ++ ("" : Str) ++ p) ⟨#[c]⟩ = _
    rw [app]
    simp
theorem name_ok (n : Nat) (c : Int) : callF GC XC M (n + 2) 9 [.int c] = .ok (.str ⟨(nameL c).toArray⟩) := by
  refine callF_step (fn := f__law_name) rfl rfl ?_
  unfold f__law_name nameL
  have m1 := mix_ok n c 9973 4 (by omega) (by omega)
  have m2 := mix_ok n c 9949 6 (by omega) (by omega)
  have lo := mixI_lo (c := c) (p := 9973) (m := 4) (by omega)
  have hi := mixI_hi (c := c) (p := 9973) (m := 4) (by omega)
  have lo2 := mixI_lo (c := c) (p := 9949) (m := 6) (by omega)
  have hi2 := mixI_hi (c := c) (p := 9949) (m := 6) (by omega)
  have md : modD (.int c) (.int 3) = some (.int (c % 3)) := mod_i (by omega)
  by_cases h : 0 < c % 3
  · have a1 : L2.atI (Str.cps "abcdefghijklmnopqrstuvwxyz").toList (mixI c 9973 4) = some ((mixI c 9973 4).toNat + 97) := by rw [letters_eq]; exact atI_let lo (by omega)
    dsimp! only [md, h, m1, a1]
  · have r1 : rngOk 0 (1 + mixI c 9949 6) = true := by
      unfold rngOk
      simp only [Bool.and_eq_true, decide_eq_true_eq]
      omega
    have key : ∀ ρ : Env, ρ = [some (.dat (.int c)), some (.dat (.str "abcdefghijklmnopqrstuvwxyz")), none] → lcLoop (lcF GC (callF GC XC M (n + 1)) (E.idx (E.var 1) (E.call 8 (E.cons (E.op .add (E.var 0) (E.op .mul (E.kI 7) (E.var 2))) (E.cons (E.kI 9967) (E.cons (E.kI 26) E.nil))))) (.nm 2) E.nil ρ) (rngD 0 (1 + mixI c 9949 6).toNat) = .ok ((List.range (1 + mixI c 9949 6).toNat).map fun k => .str ⟨#[(mixI (c + 7 * (k : Nat)) 9967 26).toNat + 97]⟩) := by
      rintro ρ rfl
      rw [rngD_eq]
      refine lcLoop_on fun k hk => ?_
      have e0 : (0 : Int) + (k : Nat) = (k : Nat) := by omega
      have m3 := mix_ok n (c + 7 * (k : Nat)) 9967 26 (by omega) (by omega)
      have a1 : L2.atI (Str.cps "abcdefghijklmnopqrstuvwxyz").toList (mixI (c + 7 * (k : Nat)) 9967 26) = some ((mixI (c + 7 * (k : Nat)) 9967 26).toNat + 97) := by
        rw [letters_eq]
        exact atI_let (mixI_lo (by omega)) (mixI_hi (by omega))
      have ml : mulD (.int 7) (.int (k : Nat)) = some (.int (7 * (k : Nat))) := mul_i (by rw [show small64 7 = true from by decide]; rfl)
      unfold lcF
      dsimp! only [e0, ml, m3, a1]
    dsimp! only [md, h, m2, r1]
    rw [key _ rfl]
    dsimp! only [e_var]
    rw [join_s]
    have es : ((List.range (1 + mixI c 9949 6).toNat).map fun k => PyData.str ⟨#[(mixI (c + 7 * (k : Nat)) 9967 26).toNat + 97]⟩) = (List.range (1 + mixI c 9949 6).toNat).map fun k => PyData.str ((fun k : Nat => (⟨#[(mixI (c + 7 * (k : Nat)) 9967 26).toNat + 97]⟩ : Str)) k) := rfl
    rw [es, strsD_map]
    have sz : (((List.range (1 + mixI c 9949 6).toNat).map fun k => (⟨#[(mixI (c + 7 * (k : Nat)) 9967 26).toNat + 97]⟩ : Str)).map (·.length)).sum ≤ 10 := by
      rw [List.map_map]
      have : ((fun x : Str => x.length) ∘ fun k : Nat => (⟨#[(mixI (c + 7 * (k : Nat)) 9967 26).toNat + 97]⟩ : Str)) = fun _ => 1 := rfl
      rw [this]
      have one : ∀ l : List Nat, (l.map fun _ => 1).sum = l.length := by
        intro l
        induction l with
        | nil => rfl
        | cons x r ih => rw [List.map_cons, List.sum_cons, ih, List.length_cons, Nat.add_comm]
      rw [one, List.length_range]
      omega
    have e0 : (("" : Str)).length = 0 := rfl
    dsimp! only [e0]
    rw [if_pos (by rw [Nat.mul_zero, Nat.add_zero]; exact Nat.le_trans sz (by decide))]
    have ej := join_chars ((List.range (1 + mixI c 9949 6).toNat).map fun k => (mixI (c + 7 * (k : Nat)) 9967 26).toNat + 97)
    rw [List.map_map] at ej
    dsimp! only [e_var]
    exact congrArg (fun z => Res.ok (PyData.str z)) ej
theorem name_good (c : Int) : isNameS ⟨(nameL c).toArray⟩ = true := by
  have lo2 := mixI_lo (c := c) (p := 9949) (m := 6) (by omega)
  have hi2 := mixI_hi (c := c) (p := 9949) (m := 6) (by omega)
  have lo := mixI_lo (c := c) (p := 9973) (m := 4) (by omega)
  have hi := mixI_hi (c := c) (p := 9973) (m := 4) (by omega)
  have mem : ∀ i : Int, 0 ≤ i → i < 26 → i.toNat + 97 ∈ lettersL := fun i h0 h1 => by
    unfold lettersL
    exact List.mem_map.mpr ⟨i.toNat, List.mem_range.mpr (by omega), rfl⟩
  have len : (Str.mk (nameL c).toArray).length = (nameL c).length := by show (nameL c).toArray.size = _; simp
  have h1 : 1 ≤ (nameL c).length ∧ (nameL c).length ≤ 6 := by
    unfold nameL
    split
    · simp
    · rw [List.length_map, List.length_range]
      omega
  have h2 : (nameL c).all (fun c => decide (c ∈ lettersL)) = true := by
    rw [List.all_eq_true]
    intro x hx
    unfold nameL at hx
    refine decide_eq_true ?_
    split at hx
    · simp only [List.mem_cons, List.not_mem_nil, or_false] at hx
      subst hx
      exact mem _ lo (by omega)
    · obtain ⟨k, _, rfl⟩ := List.mem_map.mp hx
      exact mem _ (mixI_lo (by omega)) (mixI_hi (by omega))
  unfold isNameS
  rw [len]
  simp only [h1.1, h1.2, decide_true, Bool.true_and]
  exact h2
/-! ### own dicts of texts -/
def encK (l : List (Str × D)) : List (D × D) := l.map fun p => (.str p.1, p.2)
def putL (l : List (Str × D)) (x : Str) (v : D) : List (Str × D) := if x ∈ l.map (·.1) then l.map (fun p => if p.1 = x then (p.1, v) else p) else l ++ [(x, v)]
theorem dKey_str (x y : Str) : (dKey (.str x) = some (.inr y)) = (x = y) := by
  show (some (Sum.inr x : L2.Key) = some (.inr y)) = _
  simp
theorem putD_enc (l : List (Str × D)) (x : Str) (v : D) : putD (encK l) (.inr x) v = encK (putL l x v) := by
  unfold putD putL encK
  have e : ((l.map fun p => (PyData.str p.1, p.2)).any fun kv => decide (dKey kv.1 = some (.inr x))) = decide (x ∈ l.map (·.1)) := by
    rw [List.any_map]
    rw [Bool.eq_iff_iff]
    simp only [List.any_eq_true, Function.comp, decide_eq_true_eq, List.mem_map, dKey_str]
  rw [e]
  by_cases h : x ∈ l.map (·.1)
  · rw [if_pos (decide_eq_true h), if_pos h, List.map_map, List.map_map]
    refine List.map_congr_left fun p _ => ?_
    show (if dKey (PyData.str p.1) = some (.inr x) then (PyData.str p.1, v) else (PyData.str p.1, p.2)) = _
    simp only [dKey_str, Function.comp]
    split <;> rfl
  · rw [if_neg (by simpa using h), if_neg h, List.map_append]
    rfl
theorem look_enc (l : List (Str × D)) (x : Str) : lookD (encK l) (.inr x) = (l.find? fun p => decide (p.1 = x)).map (·.2) := by
  unfold lookD encK
  rw [List.find?_map, Option.map_map]
  have : ((fun kv : D × D => decide (dKey kv.1 = some (.inr x))) ∘ fun p : Str × D => (PyData.str p.1, p.2)) = fun p => decide (p.1 = x) := by
    funext p
    simp only [Function.comp, dKey_str]
  rw [this]
  rfl
theorem putL_keys (l : List (Str × D)) (x : Str) (v : D) : (putL l x v).map (·.1) = if x ∈ l.map (·.1) then l.map (·.1) else l.map (·.1) ++ [x] := by
  unfold putL
  split
  · rw [List.map_map]
    refine List.map_congr_left fun p _ => ?_
    simp only [Function.comp]
    split <;> rfl
  · simp
theorem putL_mem {l : List (Str × D)} {x : Str} {v : D} {p : Str × D} (h : p ∈ putL l x v) : p ∈ l ∨ p = (x, v) := by
  unfold putL at h
  split at h
  · obtain ⟨q, hq, rfl⟩ := List.mem_map.mp h
    split
    · rename_i e
      exact .inr (by rw [e])
    · exact .inl hq
  · rcases List.mem_append.mp h with h | h
    · exact .inl h
    · exact .inr (by simpa using h)
theorem putL_nodup {l : List (Str × D)} (h : (l.map (·.1)).Nodup) (x : Str) (v : D) : ((putL l x v).map (·.1)).Nodup := by
  rw [putL_keys]
  split
  · exact h
  · rename_i hx
    rw [List.nodup_append]
    refine ⟨h, by simp, fun a ha b hb => ?_⟩
    simp only [List.mem_cons, List.not_mem_nil, or_false] at hb
    subst hb
    exact fun e => hx (e ▸ ha)
theorem putL_len (l : List (Str × D)) (x : Str) (v : D) : (putL l x v).length ≤ l.length + 1 := by
  unfold putL
  split
  · rw [List.length_map]; omega
  · simp
/-- rising, of the sorted -/
theorem rises_of : ∀ {l : List Str}, l.Pairwise LeS → l.Nodup → risesL l = true
  | [], _, _ => rfl
  | [_], _, _ => rfl
  | x :: y :: r, h, n => by
    show (ltS x y && risesL (y :: r)) = true
    rw [rises_of (List.pairwise_cons.mp h).2 (List.nodup_cons.mp n).2, Bool.and_true]
    have h1 : LeS x y := (List.pairwise_cons.mp h).1 y List.mem_cons_self
    have h2 : x ≠ y := fun e => (List.nodup_cons.mp n).1 (by rw [e]; exact List.mem_cons_self)
    cases e : ltS x y with
    | true => rfl
    | false => exact absurd (LeS.anti h1 e) h2
end G7

namespace G7
open PySem
local macro_rules | `(tactic| dsimp! only [$xs,*]) => `(tactic| simp only [e_var, e_glob, e_kI, e_kS, e_kB, e_kN, e_tp, e_ls, e_dn, e_op, e_ng, e_cmp, e_chn, e_an, e_orr, e_on, e_nt, e_it, e_ix, e_sl, e_cl, e_bt, e_is, e_lcm, x_nil, x_cons, sq_n, sq_r, sq_c, sq_b, x_asg, x_asgT, x_ret, x_retN, x_if, x_for, x_whl, x_app, x_ext, x_dput, x_pass, x_cont, x_brk, evalA, evalAB, evalC, evalI, bnd, bor, view, read, Env.at, Env.put, b_ok, b_bad, b_exc, b_ite, of_some, of_none, om_some, om_none, ob_some, calm_k, tr_b, tr_n, tr_i, tr_l, tr_t, fl_ret, fl_next, fl_ite, len_s, len_l, len_t, tup_l, int_b, initE, List.map_cons, List.map_nil, List.length_cons, List.length_nil, List.cons_append, List.nil_append, List.replicate, frzE, esc, escA, escB, escAB, escI, escC, op2, add_i, sub_i, cmpD, lt_i, lt_s, is_n, is_b, eq_s, eq_i, tup_at, lst_at, str_at, Sl.d, fresh, isCont, Bool.false_and, Bool.and_false, Bool.true_and, Bool.and_true, if_true, if_false, ite_true, ite_false, Nat.reduceAdd, Nat.reduceSub, bindT, bindT.bindTs, wipeE, Tg.slots, List.any_cons, List.any_nil, isTy, escJ, Bool.or_false, Bool.false_or, Bool.or_true, Bool.true_or, Bool.not_true, Bool.not_false, Bool.false_eq_true, seqD, decide_true, decide_false, nc_lit, eq_self, Int.reduceEq, Nat.reduceEqDiff, and_self, and_true, true_and, $xs,*])
theorem isVal_mono : ∀ (m n : Nat) (d : D), m ≤ n → isVal m d = true → isVal n d = true := by
  intro m
  induction m with
  | zero =>
    intro n d _ h
    cases d with
    | none => unfold isVal; rfl
    | bool b => unfold isVal; rfl
    | int i => unfold isVal; rfl
    | str x => unfold isVal; rfl
    | _ => unfold isVal at h; cases h
  | succ m ih =>
    intro n d hn h
    obtain ⟨k, rfl⟩ : ∃ k, n = k + 1 := ⟨n - 1, by omega⟩
    cases d with
    | none => unfold isVal; rfl
    | bool b => unfold isVal; rfl
    | int i => unfold isVal; rfl
    | str x => unfold isVal; rfl
    | list xs => unfold isVal at h; cases h
    | dict xs => unfold isVal at h; cases h
    | tuple xs =>
      rcases xs with _ | ⟨a, _ | ⟨b, _ | ⟨c, r⟩⟩⟩
      · unfold isVal at h; cases h
      · cases a <;> (unfold isVal at h; cases h)
      · cases a with
        | str z =>
          rw [isVal_tup] at h ⊢
          split at h
          · rename_i hz
            rw [if_pos hz]
            cases b with
            | tuple ps =>
              have h : (isNamed 2 (.tuple ps) && ps.all (pairVal m)) = true := h
              show (isNamed 2 (.tuple ps) && ps.all (pairVal k)) = true
              simp only [Bool.and_eq_true, List.all_eq_true] at h ⊢
              refine ⟨h.1, fun p hp => ?_⟩
              have := h.2 p hp
              cases p with
              | tuple ys =>
                rcases ys with _ | ⟨y1, _ | ⟨y2, _ | ⟨_, _⟩⟩⟩
                · cases this
                · cases this
                · exact ih k y2 (by omega) this
                · cases this
              | _ => cases this
            | _ => cases h
          · rename_i hz
            rw [if_neg hz]
            cases b with
            | tuple vs =>
              simp only [Bool.and_eq_true, List.all_eq_true] at h ⊢
              exact ⟨h.1, fun v hv => ih k v (by omega) (h.2 v hv)⟩
            | _ => simp at h
        | _ => unfold isVal at h; cases h
      · cases a <;> (unfold isVal at h; cases h)
theorem slims_of {xs : List D} (h : ∀ x ∈ xs, slim x = true) : slims xs = true := by
  induction xs with
  | nil => rfl
  | cons x r ih =>
    unfold slims
    rw [h x List.mem_cons_self, ih fun y hy => h y (List.mem_cons_of_mem _ hy)]
    rfl
theorem slim_of {xs : List D} (hl : xs.length ≤ 1000) (h : ∀ x ∈ xs, slim x = true) : slim (.tuple xs) = true := by
  unfold slim
  rw [slims_of h]
  simpa using hl
/-- a value of the law's own making -/
def GoodV (deep : Nat) (d : D) : Prop := isVal deep d = true ∧ slim d = true
theorem lcLoop_ex {α : Type} {f : D → Res (Option D)} {i : α → D} {P : D → Prop} : ∀ {xs : List α}, (∀ x ∈ xs, ∃ y, f (i x) = .ok (some y) ∧ P y) → ∃ ys, lcLoop f (xs.map i) = .ok ys ∧ ys.length = xs.length ∧ ∀ y ∈ ys, P y
  | [], _ => ⟨[], rfl, rfl, fun y hy => by cases hy⟩
  | x :: r, h => by
    obtain ⟨y, e, hy⟩ := h x List.mem_cons_self
    obtain ⟨ys, e2, hl, hys⟩ := lcLoop_ex (f := f) (i := i) (P := P) fun z hz => h z (List.mem_cons_of_mem _ hz)
    refine ⟨y :: ys, ?_, by rw [List.length_cons, List.length_cons, hl], fun z hz => ?_⟩
    · show (f (i x)).bind _ = _
      rw [e]
      show (lcLoop f (r.map i)).bind _ = _
      rw [e2]
      rfl
    · rcases List.mem_cons.mp hz with rfl | hz
      · exact hy
      · exact hys z hz
/-- a loop that goes through, by an invariant -/
theorem forLoop_inv {α : Type} {f : Env → Res Fl} {t : Tg} {i : α → D} : ∀ (xs : List α) (I : Nat → Env → Prop), (∀ k x ρ, xs[k]? = some x → I k ρ → ∃ ρ1 ρ2, bindT t (i x) ρ = .ok ρ1 ∧ f ρ1 = .ok (.next ρ2) ∧ I (k + 1) ρ2) → ∀ ρ, I 0 ρ → ∃ ρ', forLoop f t (xs.map i) ρ = .ok (.next ρ') ∧ I xs.length ρ'
  | [], _, _, ρ, h => ⟨ρ, rfl, h⟩
  | x :: r, I, h, ρ, h0 => by
    obtain ⟨ρ1, ρ2, hb, hf, h1⟩ := h 0 x ρ rfl h0
    obtain ⟨ρ', e, hI⟩ := forLoop_inv r (fun k => I (k + 1)) (fun k y ρ hy hk => h (k + 1) y ρ hy hk) ρ2 h1
    refine ⟨ρ', ?_, hI⟩
    show (bindT t (i x) ρ).bind _ = _
    rw [hb]
    show (f ρ1).bind _ = _
    rw [hf]
    exact e
theorem frz_dat {ρ : Env} : frzE ρ [] = ρ := rfl
theorem rngOk_small {i : Int} (h0 : 0 ≤ i) (h1 : i ≤ 1000) : rngOk 0 i = true := by
  unfold rngOk
  simp only [Bool.and_eq_true, decide_eq_true_eq]
  omega
theorem flat_good {deep : Nat} {d : D} (h : flatD d = true) : GoodV deep d := by
  cases d <;> first | exact ⟨(by unfold isVal; rfl), (by unfold slim; rfl)⟩ | cases h
theorem mul20 : mulD (.int 2) (.int 0) = some (.int 0) := rfl
theorem mul21 : mulD (.int 2) (.int 1) = some (.int 2) := rfl
theorem pow109 : powD (.int 10) (.int 9) = some (.int 1000000000) := by kernel_rfl
theorem mulA12 : mulD (.str "a") (.int 12) = some (.str "aaaaaaaaaaaa") := by kernel_rfl
theorem srt_enc (l : List (Str × D)) (h : l.length < 64) : srtD ((encK l).map (·.1)) = some (.list ((sortS (l.map (·.1))).map .str)) := by
  unfold srtD encK
  rw [List.map_map]
  have e : strsD (l.map ((fun kv : D × D => kv.1) ∘ fun p : Str × D => (PyData.str p.1, p.2))) = some (l.map (·.1)) := strsD_map (fun p : Str × D => p.1) l
  rw [e]
  show (if (l.map (·.1)).length < 64 then _ else none) = _
  rw [if_pos (by rw [List.length_map]; exact h)]
theorem look_mem {l : List (Str × D)} {x : Str} (h : x ∈ l.map (·.1)) : ∃ v, (x, v) ∈ l ∧ lookD (encK l) (.inr x) = some v := by
  rw [look_enc]
  obtain ⟨p, hp, e⟩ := List.mem_map.mp h
  cases hf : l.find? fun p => decide (p.1 = x) with
  | none =>
    have := List.find?_eq_none.mp hf p hp
    simp [e] at this
  | some q =>
    have h1 := List.mem_of_find?_eq_some hf
    have h2 := List.find?_some hf
    simp only [decide_eq_true_eq] at h2
    refine ⟨q.2, ?_, rfl⟩
    rw [← h2]
    exact h1
theorem idx_dict (kvs : List (D × D)) (x : Str) : idxD (.dict kvs) (.str x) = lookD kvs (.inr x) := rfl
/-- the flat ways -/
theorem value_flat (deep n : Nat) (c m w : Int) (hm : m = if 0 < deep then 7 else 5) (hw : mixI c 9859 m = w) (h0 : 0 ≤ w) (h5 : w < 5) : ∃ d, callF GC XC M (n + 2) 10 [.int c, .int deep] = .ok d ∧ GoodV deep d := by
  have hmm : 0 < m := by subst hm; split <;> omega
  have mx := mix_ok n c 9859 m (by omega) hmm
  rw [hw] at mx
  have hd : (0 < (deep : Int)) = (0 < deep) := by simp
  have hgo : ∀ d, endD (exec GC (callF GC XC M (n + 1)) XC f__law_value.body (initE [.int c, .int deep] 6)) = .ok d → flatD d = true → ∃ d, callF GC XC M (n + 2) 10 [.int c, .int deep] = .ok d ∧ GoodV deep d := fun d e f => ⟨d, callF_step (fn := f__law_value) rfl rfl e, flat_good f⟩
  have hargs : (5 : Int) + 2 * (if 0 < deep then 1 else 0) = m := by subst hm; split <;> rfl
  have hsum : ∀ b : Bool, b = decide (0 < deep) → ((Res.of (mulD (.int 2) (.int (if b = true then 1 else 0)))).bind fun y => Res.of (addD (.int 5) y)) = .ok (.int m) := by
    rintro b rfl
    by_cases h : 0 < deep
    · simp only [h, decide_true, if_true, mul21]; subst hm; simp only [h, if_true]; rfl
    · simp only [h, decide_false, Bool.false_eq_true, if_false, mul20]; subst hm; simp only [h, if_false]; rfl
  have m25 := mix_ok n c 9857 25 (by omega) (by omega)
  have m7 := mix_ok n c 9851 7 (by omega) (by omega)
  have m4 := mix_ok n c 9839 4 (by omega) (by omega)
  have md : modD (.int c) (.int 2) = some (.int (c % 2)) := mod_i (by omega)
  have ways : w = 0 ∨ w = 1 ∨ w = 2 ∨ w = 3 ∨ w = 4 := by omega
  rcases ways with rfl | rfl | rfl | rfl | rfl
  · refine hgo (.int (mixI c 9857 25 - 12)) ?_ rfl
    unfold f__law_value
    dsimp! only [hd]
    rw [hsum _ rfl]
    dsimp! only [mx, m25]
  · refine hgo (.str ⟨(cutD (Str.cps "abc;de").toList none (some (mixI c 9851 7))).toArray⟩) ?_ rfl
    unfold f__law_value
    dsimp! only [hd]
    rw [hsum _ rfl]
    dsimp! only [mx, m7, slcD]
  · refine hgo (.bool (decide (c % 2 = 0))) ?_ rfl
    unfold f__law_value
    dsimp! only [hd]
    rw [hsum _ rfl]
    dsimp! only [mx, md]
  · refine hgo .none ?_ rfl
    unfold f__law_value
    dsimp! only [hd]
    rw [hsum _ rfl]
    dsimp! only [mx]
  · have lo := mixI_lo (c := c) (p := 9839) (m := 4) (by omega)
    have hi := mixI_hi (c := c) (p := 9839) (m := 4) (by omega)
    obtain ⟨d, hd1, hd2⟩ : ∃ d, L2.atI [PyData.int 0, .str "", .int 1000000000, .str "aaaaaaaaaaaa"] (mixI c 9839 4) = some d ∧ flatD d = true := by
      have : mixI c 9839 4 = 0 ∨ mixI c 9839 4 = 1 ∨ mixI c 9839 4 = 2 ∨ mixI c 9839 4 = 3 := by omega
      rcases this with e | e | e | e <;> rw [e] <;> exact ⟨_, rfl, rfl⟩
    refine hgo d ?_ hd2
    unfold f__law_value
    dsimp! only [hd]
    rw [hsum _ rfl]
    dsimp! only [mx, m4, pow109, mulA12, hd1]
theorem value_ok : ∀ (deep k : Nat) (c : Int), deep + 3 ≤ k → ∃ d, callF GC XC M k 10 [.int c, .int deep] = .ok d ∧ GoodV deep d := by
  intro deep
  induction deep with
  | zero =>
    intro k c hk
    obtain ⟨n, rfl⟩ : ∃ n, k = n + 2 := ⟨k - 2, by omega⟩
    exact value_flat 0 n c 5 _ rfl rfl (mixI_lo (by omega)) (mixI_hi (by omega))
  | succ deep ih =>
    intro k c hk
    obtain ⟨n, rfl⟩ : ∃ n, k = n + 3 := ⟨k - 3, by omega⟩
    have lo := mixI_lo (c := c) (p := 9859) (m := 7) (by omega)
    have hi := mixI_hi (c := c) (p := 9859) (m := 7) (by omega)
    by_cases hflat : mixI c 9859 7 < 5
    · exact value_flat (deep + 1) (n + 1) c 7 _ (by simp) rfl lo hflat
    · have mx := mix_ok (n + 1) c 9859 7 (by omega) (by omega)
      have m33 := mix_ok (n + 1) c 9833 4 (by omega) (by omega)
      have m29 := mix_ok (n + 1) c 9829 4 (by omega) (by omega)
      have lo3 := mixI_lo (c := c) (p := 9833) (m := 4) (by omega)
      have hi3 := mixI_hi (c := c) (p := 9833) (m := 4) (by omega)
      have lo9 := mixI_lo (c := c) (p := 9829) (m := 4) (by omega)
      have hi9 := mixI_hi (c := c) (p := 9829) (m := 4) (by omega)
      have hpos : (0 : Int) < ((deep + 1 : Nat) : Int) := by omega
      have hm1 : ((deep + 1 : Nat) : Int) - 1 = (deep : Nat) := by omega
      have a52 : (5 : Int) + 2 = 7 := by omega
      have ways : mixI c 9859 7 = 5 ∨ mixI c 9859 7 = 6 := by omega
      rcases ways with hw | hw
      · rw [hw] at mx
        have r1 := rngOk_small lo3 (by omega)
        obtain ⟨ys, e, hl, hys⟩ : ∃ ys, lcLoop (lcF GC (callF GC XC M (n + 2)) (E.call 10 (E.cons (E.op .add (E.op .add (E.var 0) (E.op .mul (E.kI 7) (E.var 4))) (E.kI 1)) (E.cons (E.op .sub (E.var 1) (E.kI 1)) E.nil))) (.nm 4) E.nil [some (.dat (.int c)), some (.dat (.int ((deep + 1 : Nat) : Int))), some (.dat (.int 5)), none, none, none]) (rngD 0 (mixI c 9833 4).toNat) = .ok ys ∧ ys.length = (List.range (mixI c 9833 4).toNat).length ∧ ∀ y ∈ ys, GoodV deep y := by
          rw [rngD_eq]
          refine lcLoop_ex fun k hk => ?_
          have e0 : (0 : Int) + (k : Nat) = (k : Nat) := by omega
          have ml : mulD (.int 7) (.int (k : Nat)) = some (.int (7 * (k : Nat))) := mul_i (by rw [show small64 7 = true from by decide]; rfl)
          obtain ⟨d, hd, hg⟩ := ih (n + 2) (c + 7 * (k : Nat) + 1) (by omega)
          refine ⟨d, ?_, hg⟩
          unfold lcF
          dsimp! only [e0, ml, hm1, hd]
        refine ⟨.tuple [.str "row", .tuple ys], callF_step (fn := f__law_value) rfl rfl ?_, ?_, ?_⟩
        · unfold f__law_value
          dsimp! only [hpos, mul21, a52, mx, m33, r1]
          rw [e]
          dsimp! only [e_var]
        · rw [isVal_tup]
          show ys.all (isVal deep) = true
          exact List.all_eq_true.mpr fun y hy => (hys y hy).1
        · refine slim_of (by simp) fun x hx => ?_
          simp only [List.mem_cons, List.not_mem_nil, or_false] at hx
          rcases hx with rfl | rfl
          · unfold slim; rfl
          · exact slim_of (by rw [hl, List.length_range]; omega) fun y hy => (hys y hy).2
      · rw [hw] at mx
        have r1 := rngOk_small lo9 (by omega)
        obtain ⟨ρ', el, l, o, rfl, nd, hl, hgood⟩ := forLoop_inv (f := bdF GC (callF GC XC M (n + 2)) XC (S.cons (S.dput 3 (E.call 9 (E.cons (E.op .add (E.var 0) (E.op .mul (E.kI 11) (E.var 4))) E.nil)) (E.call 10 (E.cons (E.op .add (E.op .add (E.var 0) (E.op .mul (E.kI 13) (E.var 4))) (E.kI 2)) (E.cons (E.op .sub (E.var 1) (E.kI 1)) E.nil)))) S.nil)) (t := .nm 4) (i := fun k : Nat => PyData.int ((0 : Int) + (k : Nat))) (List.range (mixI c 9829 4).toNat)
          (fun k ρ => ∃ l o, ρ = [some (.dat (.int c)), some (.dat (.int ((deep + 1 : Nat) : Int))), some (.dat (.int 6)), some (.own (.dict (encK l))), o, none] ∧ (l.map (·.1)).Nodup ∧ l.length ≤ k ∧ ∀ p ∈ l, isNameS p.1 = true ∧ GoodV deep p.2)
          (by
            rintro k x ρ hx ⟨l, o, rfl, nd, hl, hg⟩
            have hx' : k < (mixI c 9829 4).toNat := by
              have := (List.getElem?_eq_some_iff.mp hx).1
              rwa [List.length_range] at this
            have e0 : (0 : Int) + (x : Nat) = (x : Nat) := by omega
            have ml : mulD (.int 11) (.int (x : Nat)) = some (.int (11 * (x : Nat))) := mul_i (by rw [show small64 11 = true from by decide]; rfl)
            have ml2 : mulD (.int 13) (.int (x : Nat)) = some (.int (13 * (x : Nat))) := mul_i (by rw [show small64 13 = true from by decide]; rfl)
            obtain ⟨d, hd, hgd⟩ := ih (n + 2) (c + 13 * (x : Nat) + 2) (by omega)
            have hnm := name_ok n (c + 11 * (x : Nat))
            have hz : (encK l).length < sizeLine := by
              unfold encK
              rw [List.length_map]
              exact Nat.lt_of_lt_of_le (show l.length < 100 by omega) (by decide)
            refine ⟨_, [some (.dat (.int c)), some (.dat (.int ((deep + 1 : Nat) : Int))), some (.dat (.int 6)), some (.own (.dict (encK (putL l ⟨(nameL (c + 11 * (x : Nat))).toArray⟩ d)))), some (.dat (.int (x : Nat))), none], rfl, ?_, _, _, rfl, putL_nodup nd _ _, Nat.le_trans (putL_len _ _ _) (by omega), fun p hp => ?_⟩
            · unfold bdF
              rw [← putD_enc]
              dsimp! only [e0, ml, ml2, hm1, hd, hnm, ownK, hz, dKey, List.append_nil, List.not_mem_nil]
            · rcases putL_mem hp with hp | rfl
              · exact hg p hp
              · exact ⟨name_good _, hgd⟩)
          [some (.dat (.int c)), some (.dat (.int ((deep + 1 : Nat) : Int))), some (.dat (.int 6)), some (.own (.dict (encK []))), none, none] ⟨[], none, rfl, List.nodup_nil, Nat.le_refl _, fun p hp => by cases hp⟩
        rw [List.length_range] at hl
        have hl64 : l.length < 64 := by omega
        have srt := srt_enc l hl64
        have pm := sortS_perm (l.map (·.1))
        have key : lcLoop (lcF GC (callF GC XC M (n + 2)) (E.tup (E.cons (E.var 5) (E.cons (E.idx (E.var 3) (E.var 5)) E.nil))) (.nm 5) E.nil [some (.dat (.int c)), some (.dat (.int ((deep + 1 : Nat) : Int))), some (.dat (.int 6)), some (.own (.dict (encK l))), o, none]) ((sortS (l.map (·.1))).map .str) = .ok ((sortS (l.map (·.1))).map fun x => .tuple [.str x, (lookD (encK l) (.inr x)).getD .none]) := by
          refine lcLoop_on fun x hx => ?_
          obtain ⟨v, _, hv⟩ := look_mem (pm.mem_iff.mp hx)
          unfold lcF
          dsimp! only [idx_dict, hv, Option.getD]
        refine ⟨.tuple [.str "record", .tuple ((sortS (l.map (·.1))).map fun x => .tuple [.str x, (lookD (encK l) (.inr x)).getD .none])], callF_step (fn := f__law_value) rfl rfl ?_, ?_, ?_⟩
        · unfold f__law_value
          dsimp! only [hpos, mul21, a52, mx, m29, r1]
          rw [rngD_eq]
          rw [show (encK [] : List (D × D)) = [] from rfl] at el
          rw [el]
          dsimp! only [srt_d, srt]
          rw [key]
          dsimp! only [e_var]
        · rw [isVal_tup, if_pos rfl]
          have hall : ∀ x ∈ sortS (l.map (·.1)), isNameS x = true ∧ isVal deep ((lookD (encK l) (.inr x)).getD .none) = true := fun x hx => by
            obtain ⟨v, hv1, hv⟩ := look_mem (pm.mem_iff.mp hx)
            rw [hv]
            exact ⟨(hgood _ hv1).1, (hgood _ hv1).2.1⟩
          have h1 : ((sortS (l.map (·.1))).map fun x => PyData.tuple [.str x, (lookD (encK l) (.inr x)).getD .none]).all (goodRow 2) = true := by
            rw [List.all_map, List.all_eq_true]
            exact fun x hx => (hall x hx).1
          have h2 : risesL (((sortS (l.map (·.1))).map fun x => PyData.tuple [.str x, (lookD (encK l) (.inr x)).getD .none]).map headS) = true := by
            rw [List.map_map]
            have : (headS ∘ fun x => PyData.tuple [.str x, (lookD (encK l) (.inr x)).getD .none]) = id := rfl
            rw [this, List.map_id]
            exact rises_of (sortS_sorted _) (pm.nodup_iff.mpr nd)
          have h3 : ((sortS (l.map (·.1))).map fun x => PyData.tuple [.str x, (lookD (encK l) (.inr x)).getD .none]).all (pairVal deep) = true := by
            rw [List.all_map, List.all_eq_true]
            exact fun x hx => (hall x hx).2
          show ((((sortS (l.map (·.1))).map fun x => PyData.tuple [.str x, (lookD (encK l) (.inr x)).getD .none]).all (goodRow 2) && risesL (((sortS (l.map (·.1))).map fun x => PyData.tuple [.str x, (lookD (encK l) (.inr x)).getD .none]).map headS)) && _) = true
          rw [h1, h2, h3]
          rfl
        · refine slim_of (by simp) fun x hx => ?_
          simp only [List.mem_cons, List.not_mem_nil, or_false] at hx
          rcases hx with rfl | rfl
          · unfold slim; rfl
          · refine slim_of (by rw [List.length_map, pm.length_eq, List.length_map]; omega) fun y hy => ?_
            obtain ⟨x, hx, rfl⟩ := List.mem_map.mp hy
            obtain ⟨v, hv1, hv⟩ := look_mem (pm.mem_iff.mp hx)
            rw [hv]
            refine slim_of (by simp) fun z hz => ?_
            simp only [List.mem_cons, List.not_mem_nil, or_false] at hz
            rcases hz with rfl | rfl
            · unfold slim; rfl
            · exact (hgood _ hv1).2.2
end G7

namespace G7
open PySem
local macro_rules | `(tactic| dsimp! only [$xs,*]) => `(tactic| simp only [e_var, e_glob, e_kI, e_kS, e_kB, e_kN, e_tp, e_ls, e_dn, e_op, e_ng, e_cmp, e_chn, e_an, e_orr, e_on, e_nt, e_it, e_ix, e_sl, e_cl, e_bt, e_is, e_lcm, x_nil, x_cons, sq_n, sq_r, sq_c, sq_b, x_asg, x_asgT, x_ret, x_retN, x_if, x_for, x_whl, x_app, x_ext, x_dput, x_pass, x_cont, x_brk, evalA, evalAB, evalC, evalI, bnd, bor, view, read, Env.at, Env.put, b_ok, b_bad, b_exc, b_ite, of_some, of_none, om_some, om_none, ob_some, calm_k, tr_b, tr_n, tr_i, tr_l, tr_t, fl_ret, fl_next, fl_ite, len_s, len_l, len_t, tup_l, int_b, initE, List.map_cons, List.map_nil, List.length_cons, List.length_nil, List.cons_append, List.nil_append, List.replicate, frzE, esc, escA, escB, escAB, escI, escC, op2, add_i, sub_i, cmpD, lt_i, lt_s, is_n, is_b, eq_s, eq_i, tup_at, lst_at, str_at, Sl.d, fresh, isCont, Bool.false_and, Bool.and_false, Bool.true_and, Bool.and_true, if_true, if_false, ite_true, ite_false, Nat.reduceAdd, Nat.reduceSub, bindT, bindT.bindTs, wipeE, Tg.slots, List.any_cons, List.any_nil, isTy, escJ, Bool.or_false, Bool.false_or, Bool.or_true, Bool.true_or, Bool.not_true, Bool.not_false, Bool.false_eq_true, seqD, decide_true, decide_false, nc_lit, eq_self, Int.reduceEq, Nat.reduceEqDiff, and_self, and_true, true_and, $xs,*])
def sortD : D → D
  | .none => .str "nothing"
  | .bool _ => .str "truth"
  | .int _ => .str "whole"
  | .str _ => .str "text"
  | .tuple (x :: _) => x
  | _ => .none
theorem sort_of_ok (n : Nat) (d : D) (h : ∃ deep, isVal deep d = true) : callF GC XC M (n + 1) 6 [d] = .ok (sortD d) ∧ callF GC XC M (n + 1) 12 [d] = .ok (sortD d) ∧ ∃ s, sortD d = .str s := by
  obtain ⟨deep, h⟩ := h
  have tup : ∀ xs, d = .tuple xs → ∃ z w, xs = [.str z, w] := by
    rintro xs rfl
    rcases xs with _ | ⟨a, _ | ⟨b, _ | ⟨c, r⟩⟩⟩
    · cases deep <;> (unfold isVal at h; cases h)
    · cases deep <;> cases a <;> (unfold isVal at h; cases h)
    · cases a with
      | str z => exact ⟨z, b, rfl⟩
      | _ => cases deep <;> (unfold isVal at h; cases h)
    · cases deep <;> cases a <;> (unfold isVal at h; cases h)
  refine ⟨callF_step (fn := f_sort_of) rfl rfl ?_, callF_step (fn := f__law_sort) rfl rfl ?_, ?_⟩
  · unfold f_sort_of
    cases d with
    | tuple xs => obtain ⟨z, w, rfl⟩ := tup xs rfl; rfl
    | list xs => cases deep <;> (unfold isVal at h; cases h)
    | dict xs => cases deep <;> (unfold isVal at h; cases h)
    | _ => rfl
  · unfold f__law_sort
    cases d with
    | tuple xs => obtain ⟨z, w, rfl⟩ := tup xs rfl; rfl
    | list xs => cases deep <;> (unfold isVal at h; cases h)
    | dict xs => cases deep <;> (unfold isVal at h; cases h)
    | _ => rfl
  · cases d with
    | tuple xs => obtain ⟨z, w, rfl⟩ := tup xs rfl; exact ⟨z, rfl⟩
    | list xs => cases deep <;> (unfold isVal at h; cases h)
    | dict xs => cases deep <;> (unfold isVal at h; cases h)
    | _ => exact ⟨_, rfl⟩
theorem is_value_ok (k : Nat) (d : D) (hk : 44 ≤ k) (hd : slim d = true) : callF GC XC M (k + 1) 5 [d] = .ok (.bool (isVal 20 d)) := by
  refine callF_step (fn := f_is_value) rfl rfl ?_
  unfold f_is_value
  have h := is_value_in_ok 20 k d (by omega) hd
  have h : callF GC XC M k 4 [d, .int 20] = .ok (.bool (isVal 20 d)) := h
  dsimp! only [h]
theorem add_l {a b : List D} (h : a.length + b.length ≤ sizeLine) : addD (.list a) (.list b) = some (.list (a ++ b)) := if_pos h
theorem add_s {a b : Str} (h : a.length + b.length ≤ sizeLine) : addD (.str a) (.str b) = some (.str (a ++ b)) := if_pos h
def noVals (v : D) (x : Str) : List D :=
  [.tuple [.str "row", .list [v]], .tuple [.str "row", v, .int 1], .tuple [.str "row"],
   .list [.str "row", .tuple [v]], .tuple [.str "record", .tuple [.tuple [.str x, v], .tuple [.str x, v]]],
   .tuple [.str "record", .tuple [.tuple [.str (x ++ "b"), v], .tuple [.str (x ++ "a"), v]]],
   .tuple [.str "record", .tuple [.tuple [.str x]]],
   .tuple [.str "record", .tuple [.tuple [.str "A", v]]],
   .tuple [.str "record", .list [.tuple [.str x, v]]], .tuple [.str "record", .tuple [.tuple [.str x, v, .int 1]]],
   .tuple [.str "record", .tuple [.tuple [.int 5, v]]], .tuple [.str "word", .tuple []],
   .list [], .list [v], .tuple [], .tuple [v],
   .tuple [.str "record", .tuple [.tuple [.str "", v]]], .tuple [.str "record", .tuple [.tuple [.str "abcdefg", v]]], .tuple [.int 5, .tuple [v]]]
theorem no_values_ok (n : Nat) (v : D) (c : Int) : callF GC XC M (n + 3) 16 [v, .int c] = .ok (.list (noVals v ⟨(nameL c).toArray⟩)) := by
  refine callF_step (fn := f__law_no_values) rfl rfl ?_
  unfold f__law_no_values
  have hn := name_ok n c
  have hg := name_good c
  generalize (⟨(nameL c).toArray⟩ : Str) = x at hn hg
  have hx : x.length ≤ 6 := by
    unfold isNameS at hg
    simp only [Bool.and_eq_true, decide_eq_true_eq] at hg
    exact hg.1.2
  have sl : ∀ k : Nat, k ≤ 1000 → k ≤ sizeLine := fun k hk => Nat.le_trans hk (by decide)
  have hb : addD (.str x) (.str "b") = some (.str (x ++ "b")) := add_s (sl _ (by have : ("b" : Str).length = 1 := rfl; omega))
  have ha : addD (.str x) (.str "a") = some (.str (x ++ "a")) := add_s (sl _ (by have : ("a" : Str).length = 1 := rfl; omega))
  have al : ∀ a b : List D, a.length ≤ 100 → b.length ≤ 100 → addD (.list a) (.list b) = some (.list (a ++ b)) := fun a b h1 h2 => add_l (sl _ (by omega))
  dsimp! only [hn]
  rw [al _ _ (by simp) (by simp)]
  dsimp! only [hb, ha]
  iterate 7 (rw [al _ _ (by simp) (by simp)]; dsimp! only [e_var])
  rfl
/-- none of them is a value -/
theorem noVals_no (v : D) (x : Str) (m : Nat) : ∀ t ∈ noVals v x, isVal m t = false := by
  have irr : ∀ a : Str, ltS a a = false := fun a => by
    cases h : ltS a a with
    | false => rfl
    | true => exact absurd (ltS_iff.mp h) (List.lt_irrefl _)
  have hba : ltS (x ++ "b") (x ++ "a") = false := by
    cases h : ltS (x ++ "b") (x ++ "a") with
    | false => rfl
    | true =>
      have := ltS_iff.mp h
      have e1 : (x ++ ("b" : Str)).cps.toList = x.cps.toList ++ [98] := by show (x.cps ++ #[98]).toList = _; simp
      have e2 : (x ++ ("a" : Str)).cps.toList = x.cps.toList ++ [97] := by show (x.cps ++ #[97]).toList = _; simp
      rw [e1, e2] at this
      exfalso
      generalize x.cps.toList = l at this
      induction l with
      | nil => revert this; decide
      | cons y r ih =>
        rw [List.cons_append, List.cons_append] at this
        rcases List.cons_lt_cons_iff.mp this with h | ⟨_, h⟩
        · omega
        · exact ih h
  intro t ht
  unfold noVals at ht
  simp only [List.mem_cons, List.not_mem_nil, or_false] at ht
  cases m with
  | zero => rcases ht with rfl | rfl | rfl | rfl | rfl | rfl | rfl | rfl | rfl | rfl | rfl | rfl | rfl | rfl | rfl | rfl | rfl | rfl | rfl <;> (unfold isVal; rfl)
  | succ m =>
    rcases ht with rfl | rfl | rfl | rfl | rfl | rfl | rfl | rfl | rfl | rfl | rfl | rfl | rfl | rfl | rfl | rfl | rfl | rfl | rfl
    · rw [isVal_tup]; rfl
    · unfold isVal; rfl
    · unfold isVal; rfl
    · unfold isVal; rfl
    · rw [isVal_tup, if_pos rfl]
      show ((_ && (ltS x x && true)) && _) = false
      rw [irr]; simp
    · rw [isVal_tup, if_pos rfl]
      show ((_ && (ltS (x ++ "b") (x ++ "a") && true)) && _) = false
      rw [hba]; simp
    · rw [isVal_tup, if_pos rfl]; rfl
    · rw [isVal_tup, if_pos rfl]; rfl
    · rw [isVal_tup, if_pos rfl]; rfl
    · rw [isVal_tup, if_pos rfl]; rfl
    · rw [isVal_tup, if_pos rfl]; rfl
    · rw [isVal_tup]; rfl
    · unfold isVal; rfl
    · unfold isVal; rfl
    · unfold isVal; rfl
    · cases v <;> (unfold isVal; rfl)
    · rw [isVal_tup, if_pos rfl]; rfl
    · rw [isVal_tup, if_pos rfl]; rfl
    · unfold isVal; rfl
theorem noVals_slim {v : D} (hv : slim v = true) (x : Str) : ∀ t ∈ noVals v x, slim t = true := by
  intro t ht
  unfold noVals at ht
  simp only [List.mem_cons, List.not_mem_nil, or_false] at ht
  rcases ht with rfl | rfl | rfl | rfl | rfl | rfl | rfl | rfl | rfl | rfl | rfl | rfl | rfl | rfl | rfl | rfl | rfl | rfl | rfl <;> simp [slim, slims, hv]
end G7

namespace G7
open PySem
local macro_rules | `(tactic| dsimp! only [$xs,*]) => `(tactic| simp only [e_var, e_glob, e_kI, e_kS, e_kB, e_kN, e_tp, e_ls, e_dn, e_op, e_ng, e_cmp, e_chn, e_an, e_orr, e_on, e_nt, e_it, e_ix, e_sl, e_cl, e_bt, e_is, e_lcm, x_nil, x_cons, sq_n, sq_r, sq_c, sq_b, x_asg, x_asgT, x_ret, x_retN, x_if, x_for, x_whl, x_app, x_ext, x_dput, x_pass, x_cont, x_brk, evalA, evalAB, evalC, evalI, bnd, bor, view, read, Env.at, Env.put, b_ok, b_bad, b_exc, b_ite, of_some, of_none, om_some, om_none, ob_some, calm_k, tr_b, tr_n, tr_i, tr_l, tr_t, fl_ret, fl_next, fl_ite, len_s, len_l, len_t, tup_l, int_b, initE, List.map_cons, List.map_nil, List.length_cons, List.length_nil, List.cons_append, List.nil_append, List.replicate, frzE, esc, escA, escB, escAB, escI, escC, op2, add_i, sub_i, cmpD, lt_i, lt_s, is_n, is_b, eq_s, eq_i, tup_at, lst_at, str_at, Sl.d, fresh, isCont, Bool.false_and, Bool.and_false, Bool.true_and, Bool.and_true, if_true, if_false, ite_true, ite_false, Nat.reduceAdd, Nat.reduceSub, bindT, bindT.bindTs, wipeE, Tg.slots, List.any_cons, List.any_nil, isTy, escJ, Bool.or_false, Bool.false_or, Bool.or_true, Bool.true_or, Bool.not_true, Bool.not_false, Bool.false_eq_true, seqD, decide_true, decide_false, nc_lit, eq_self, Int.reduceEq, Nat.reduceEqDiff, and_self, and_true, true_and, $xs,*])
/-! ### runs that end well, and what is wanted behind them -/
def W {α : Type} (x : Res α) (Q : α → Prop) : Prop := ∃ a, x = .ok a ∧ Q a
section
variable {α β γ : Type}
theorem W_ok (a : α) (Q : α → Prop) : W (.ok a) Q = Q a := by
  apply propext
  constructor
  · rintro ⟨_, e, h⟩; cases e; exact h
  · exact fun h => ⟨a, rfl, h⟩
theorem W_ite (p : Prop) [Decidable p] (a b : Res α) (Q : α → Prop) : W (if p then a else b) Q = if p then W a Q else W b Q := by split <;> rfl
theorem b_assoc (x : Res α) (f : α → Res β) (g : β → Res γ) : (x.bind f).bind g = x.bind fun a => (f a).bind g := by cases x <;> rfl
theorem W_bind {x : Res α} {f : α → Res β} {Q : β → Prop} {P : α → Prop} (h : W x P) (k : ∀ a, P a → W (f a) Q) : W (x.bind f) Q := by
  obtain ⟨a, rfl, p⟩ := h
  exact k a p
theorem W_mono {x : Res α} {P Q : α → Prop} (h : W x P) (k : ∀ a, P a → Q a) : W x Q := by
  obtain ⟨a, e, p⟩ := h
  exact ⟨a, e, k a p⟩
theorem W_eq {x : Res α} {a : α} (h : W x (· = a)) : x = .ok a := by
  obtain ⟨b, e, rfl⟩ := h
  exact e
end
/-- what a body's end hands back -/
def Fl.back : Fl → Option D
  | .ret d => some d
  | .next _ => some .none
  | _ => none
theorem back_r (d : D) : Fl.back (.ret d) = some d := rfl
theorem back_n (ρ : Env) : Fl.back (.next ρ) = some .none := rfl
/-- a body's end, and what is wanted of it -/
def Bk (P : D → Prop) (fl : Fl) : Prop := ∃ d, fl.back = some d ∧ P d
theorem bk_r (P : D → Prop) (d : D) : Bk P (.ret d) = P d := by
  apply propext
  constructor
  · rintro ⟨_, e, h⟩; cases e; exact h
  · exact fun h => ⟨d, rfl, h⟩
theorem bk_n (P : D → Prop) (ρ : Env) : Bk P (.next ρ) = P .none := by
  apply propext
  constructor
  · rintro ⟨_, e, h⟩; cases e; exact h
  · exact fun h => ⟨_, rfl, h⟩
theorem W_call {n f : Nat} {ds : List D} {fn : Fn} {P : D → Prop} (hn : 1 ≤ n) (hM : M f = some fn) (hl : ds.length = fn.ps) (h : W (exec GC (callF GC XC M (n - 1)) XC fn.body (initE ds fn.n)) (Bk P)) : W (callF GC XC M n f ds) P := by
  obtain ⟨m, rfl⟩ : ∃ m, n = m + 1 := ⟨n - 1, by omega⟩
  obtain ⟨fl, e, d, hb, p⟩ := h
  refine ⟨d, callF_step hM hl ?_, p⟩
  rw [Nat.add_sub_cancel] at e
  rw [e]
  cases fl <;> first | (cases hb; rfl) | cases hb
theorem C_eq {n f : Nat} {ds : List D} {fn : Fn} {d : D} (hn : 1 ≤ n) (hM : M f = some fn) (hl : ds.length = fn.ps) (h : W (exec GC (callF GC XC M (n - 1)) XC fn.body (initE ds fn.n)) (Bk (· = d))) : callF GC XC M n f ds = .ok d := W_eq (W_call hn hM hl h)
/-! ### comprehensions -/
theorem lc_fm {α : Type} {f : D → Res (Option D)} {i : α → D} {g : α → Option D} : ∀ {l : List α}, (∀ a ∈ l, f (i a) = .ok (g a)) → lcLoop f (l.map i) = .ok (l.filterMap g)
  | [], _ => rfl
  | a :: l, h => by
    show (f (i a)).bind _ = _
    rw [h a List.mem_cons_self]
    show (lcLoop f (l.map i)).bind _ = _
    rw [lc_fm fun y hy => h y (List.mem_cons_of_mem _ hy), List.filterMap_cons]
    cases g a <;> rfl
theorem lc_map {α : Type} {f : D → Res (Option D)} {i g : α → D} {l : List α} (h : ∀ a ∈ l, f (i a) = .ok (some (g a))) : lcLoop f (l.map i) = .ok (l.map g) := by
  rw [lc_fm (g := fun a => some (g a)) h]
  congr 1
  exact List.filterMap_eq_map ▸ rfl
theorem lc_flt {α : Type} {f : D → Res (Option D)} {i g : α → D} {p : α → Bool} {l : List α} (h : ∀ a ∈ l, f (i a) = if p a = true then .ok (some (g a)) else .ok none) : lcLoop f (l.map i) = .ok ((l.filter p).map g) := by
  rw [lc_fm (g := fun a => if p a = true then some (g a) else none) fun a ha => by rw [h a ha]; split <;> rfl]
  congr 1
  clear h
  induction l with
  | nil => rfl
  | cons a l ih =>
    rw [List.filterMap_cons, List.filter_cons]
    cases e : p a <;> simp [ih]
theorem lc_ex {α β : Type} {f : D → Res (Option D)} {i : α → D} {j : β → D} {P : α → β → Prop} : ∀ {l : List α}, (∀ a ∈ l, ∃ b, f (i a) = .ok (some (j b)) ∧ P a b) → ∃ bs : List β, lcLoop f (l.map i) = .ok (bs.map j) ∧ bs.length = l.length ∧ ∀ b ∈ bs, ∃ a ∈ l, P a b
  | [], _ => ⟨[], rfl, rfl, fun b hb => by cases hb⟩
  | a :: l, h => by
    obtain ⟨b, e, hp⟩ := h a List.mem_cons_self
    obtain ⟨bs, e2, hl, hbs⟩ := lc_ex (f := f) (i := i) (j := j) (P := P) fun z hz => h z (List.mem_cons_of_mem _ hz)
    refine ⟨b :: bs, ?_, by rw [List.length_cons, List.length_cons, hl], fun z hz => ?_⟩
    · show (f (i a)).bind _ = _
      rw [e]
      show (lcLoop f (l.map i)).bind _ = _
      rw [e2]
      rfl
    · rcases List.mem_cons.mp hz with rfl | hz
      · exact ⟨a, List.mem_cons_self, hp⟩
      · obtain ⟨x, hx, q⟩ := hbs z hz
        exact ⟨x, List.mem_cons_of_mem _ hx, q⟩
/-! ### loops -/
/-- behind a turn: on, back, or out -/
def Turn (I : Env → Prop) (Q : Fl → Prop) : Fl → Prop
  | .next ρ => I ρ
  | .cont ρ => I ρ
  | .brk ρ => Q (.next ρ)
  | .ret d => Q (.ret d)
theorem tn_n (I : Env → Prop) (Q : Fl → Prop) (ρ : Env) : Turn I Q (.next ρ) = I ρ := rfl
theorem tn_c (I : Env → Prop) (Q : Fl → Prop) (ρ : Env) : Turn I Q (.cont ρ) = I ρ := rfl
theorem tn_b (I : Env → Prop) (Q : Fl → Prop) (ρ : Env) : Turn I Q (.brk ρ) = Q (.next ρ) := rfl
theorem tn_r (I : Env → Prop) (Q : Fl → Prop) (d : D) : Turn I Q (.ret d) = Q (.ret d) := rfl
theorem W_loop {α : Type} {f : Env → Res Fl} {t : Tg} {i : α → D} {Q : Fl → Prop} : ∀ (l : List α) (pre : List α) (I : List α → Env → Prop), (∀ p a q ρ, pre ++ l = p ++ a :: q → I p ρ → ∃ ρ1, bindT t (i a) ρ = .ok ρ1 ∧ W (f ρ1) (Turn (I (p ++ [a])) Q)) → (∀ ρ, I (pre ++ l) ρ → Q (.next ρ)) → ∀ ρ, I pre ρ → W (forLoop f t (l.map i) ρ) Q
  | [], pre, I, _, he, ρ, h0 => ⟨_, rfl, he ρ (by rw [List.append_nil]; exact h0)⟩
  | a :: l, pre, I, hs, he, ρ, h0 => by
    obtain ⟨ρ1, hb, fl, hf, hT⟩ := hs pre a l ρ rfl h0
    have step : ∀ ρ2, I (pre ++ [a]) ρ2 → W (forLoop f t (l.map i) ρ2) Q := fun ρ2 h2 =>
      W_loop l (pre ++ [a]) I (fun p b q ρ hz hI => hs p b q ρ (by rw [← hz]; simp) hI) (fun ρ' h' => he ρ' (by simpa using h')) ρ2 h2
    show W ((bindT t (i a) ρ).bind _) Q
    rw [hb]
    show W ((f ρ1).bind _) Q
    rw [hf]
    cases fl with
    | next ρ2 => exact step ρ2 hT
    | cont ρ2 => exact step ρ2 hT
    | brk ρ2 => exact ⟨_, rfl, hT⟩
    | ret d => exact ⟨_, rfl, hT⟩
/-- a loop, by what holds between two turns -/
theorem W_for {α β : Type} {f : Env → Res Fl} {t : Tg} {i : α → D} {l : List α} {ρ : Env} {K : Fl → Res β} {Q : β → Prop} (I : List α → Env → Prop) (h0 : I [] ρ) (hs : ∀ p a q ρ, l = p ++ a :: q → I p ρ → ∃ ρ1, bindT t (i a) ρ = .ok ρ1 ∧ W (f ρ1) (Turn (I (p ++ [a])) fun fl => W (K fl) Q)) (he : ∀ ρ, I l ρ → W (K (.next ρ)) Q) : W ((forLoop f t (l.map i) ρ).bind K) Q :=
  W_bind (W_loop l [] I (fun p a q ρ e h => hs p a q ρ e h) (fun ρ h => he ρ h) ρ h0) fun a h => h
theorem W_for0 {α : Type} {f : Env → Res Fl} {t : Tg} {i : α → D} {l : List α} {ρ : Env} {Q : Fl → Prop} (I : List α → Env → Prop) (h0 : I [] ρ) (hs : ∀ p a q ρ, l = p ++ a :: q → I p ρ → ∃ ρ1, bindT t (i a) ρ = .ok ρ1 ∧ W (f ρ1) (Turn (I (p ++ [a])) Q)) (he : ∀ ρ, I l ρ → Q (.next ρ)) : W (forLoop f t (l.map i) ρ) Q :=
  W_loop l [] I (fun p a q ρ e h => hs p a q ρ e h) (fun ρ h => he ρ h) ρ h0
theorem W_forD {β : Type} {f : Env → Res Fl} {t : Tg} {l : List D} {ρ : Env} {K : Fl → Res β} {Q : β → Prop} (I : List D → Env → Prop) (h0 : I [] ρ) (hs : ∀ p a q ρ, l = p ++ a :: q → I p ρ → ∃ ρ1, bindT t a ρ = .ok ρ1 ∧ W (f ρ1) (Turn (I (p ++ [a])) fun fl => W (K fl) Q)) (he : ∀ ρ, I l ρ → W (K (.next ρ)) Q) : W ((forLoop f t l ρ).bind K) Q := by
  have := W_for (i := fun d : D => d) (l := l) (f := f) (t := t) I h0 hs he
  rwa [List.map_id'] at this
theorem lc_mapD {f : D → Res (Option D)} {g : D → D} {l : List D} (h : ∀ a ∈ l, f a = .ok (some (g a))) : lcLoop f l = .ok (l.map g) := by
  have := lc_map (i := fun d : D => d) (g := g) (l := l) (f := f) h
  rwa [List.map_id'] at this
theorem rng_at (lo : Int) (n : Nat) : rngD lo n = (List.range n).map fun k => .int (lo + (k : Nat)) := rfl
theorem rng0 (n : Nat) : rngD 0 n = (List.range n).map fun k : Nat => .int (k : Int) := by
  rw [rng_at]
  exact List.map_congr_left fun k _ => by rw [Int.zero_add]
theorem enum_map {α : Type} (i : α → D) : ∀ (l : List α) (k : Nat), enumD k (l.map i) = (l.zipIdx k).map fun p => .tuple [.int (p.2 : Nat), i p.1]
  | [], _ => rfl
  | a :: l, k => by
    show _ :: enumD (k + 1) (l.map i) = _
    rw [enum_map i l (k + 1)]
    rfl
theorem mul_k {k : Int} (h : small64 k = true) (a : Int) : mulD (.int k) (.int a) = some (.int (k * a)) := mul_i (by rw [h]; rfl)
theorem mul_r {k : Int} (h : small64 k = true) (a : Int) : mulD (.int a) (.int k) = some (.int (a * k)) := mul_i (by rw [h, Bool.or_true])
end G7

namespace G7
open PySem
local macro_rules | `(tactic| dsimp! only [$xs,*]) => `(tactic| simp only [e_var, e_glob, e_kI, e_kS, e_kB, e_kN, e_tp, e_ls, e_dn, e_op, e_ng, e_cmp, e_chn, e_an, e_orr, e_on, e_nt, e_it, e_ix, e_sl, e_cl, e_bt, e_is, e_lcm, x_nil, x_cons, sq_n, sq_r, sq_c, sq_b, x_asg, x_asgT, x_ret, x_retN, x_if, x_for, x_whl, x_app, x_ext, x_dput, x_pass, x_cont, x_brk, evalA, evalAB, evalC, evalI, bnd, bor, view, read, Env.at, Env.put, b_ok, b_bad, b_exc, b_ite, of_some, of_none, om_some, om_none, ob_some, calm_k, tr_b, tr_n, tr_i, tr_l, tr_t, fl_ret, fl_next, fl_ite, len_s, len_l, len_t, tup_l, int_b, initE, List.map_cons, List.map_nil, List.length_cons, List.length_nil, List.cons_append, List.nil_append, List.replicate, frzE, esc, escA, escB, escAB, escI, escC, op2, add_i, sub_i, cmpD, lt_i, lt_s, is_n, is_b, eq_s, eq_i, tup_at, lst_at, str_at, Sl.d, fresh, isCont, Bool.false_and, Bool.and_false, Bool.true_and, Bool.and_true, if_true, if_false, ite_true, ite_false, Nat.reduceAdd, Nat.reduceSub, bindT, bindT.bindTs, wipeE, Tg.slots, List.any_cons, List.any_nil, isTy, escJ, Bool.or_false, Bool.false_or, Bool.or_true, Bool.true_or, Bool.not_true, Bool.not_false, Bool.false_eq_true, seqD, decide_true, decide_false, nc_lit, eq_self, Int.reduceEq, Nat.reduceEqDiff, and_self, and_true, true_and, $xs,*])
theorem ofS_inj (a b : String) : (Str.ofString a = Str.ofString b) = (a = b) := by
  apply propext
  constructor
  · intro h
    rw [Str.ofString_eq_toList, Str.ofString_eq_toList] at h
    injection h with h
    have h := congrArg Array.toList h
    simp only [List.toList_toArray] at h
    have inj : ∀ l m : List Char, l.map Char.toNat = m.map Char.toNat → l = m := by
      intro l
      induction l with
      | nil => intro m h; cases m with
        | nil => rfl
        | cons _ _ => cases h
      | cons c l ih => intro m h; cases m with
        | nil => cases h
        | cons d m =>
          rw [List.map_cons, List.map_cons] at h
          injection h with h1 h2
          rw [ih m h2, Char.toNat_inj.mp h1]
    exact String.toList_inj.mp (inj _ _ h)
  · rintro rfl; rfl
/-! ### values and kinds, by their build -/
inductive Val where
  | whole (i : Int)
  | text (s : Str)
  | truth (b : Bool)
  | nothing
  | row (vs : List Val)
  | record (ps : List (Str × Val))
inductive Part where
  | whole (lo hi : Option Int)
  | text (lo : Int) (hi : Option Int)
  | truth (t : Option Bool)
  | nothing
  | row (k : List Part) (lo : Int) (hi : Option Int)
  | record (fs : List (Str × List Part × Bool)) (op : Bool)
abbrev Kind := List Part
abbrev Field := Str × List Part × Bool
def optD : Option Int → D
  | none => .none
  | some i => .int i
def optB : Option Bool → D
  | none => .none
  | some b => .bool b
theorem snd_size {α β : Type} [SizeOf α] [SizeOf β] {p : α × β} {l : List (α × β)} (h : p ∈ l) : sizeOf p.2 < sizeOf l := by
  have := List.sizeOf_lt_of_mem h
  cases p
  simp at this ⊢
  omega
def Val.d : Val → D
  | .whole i => .int i
  | .text s => .str s
  | .truth b => .bool b
  | .nothing => .none
  | .row vs => .tuple [.str "row", .tuple (vs.map fun v => v.d)]
  | .record ps => .tuple [.str "record", .tuple (ps.map fun p => .tuple [.str p.1, p.2.d])]
termination_by v => sizeOf v
decreasing_by
  all_goals simp_wf
  · have := List.sizeOf_lt_of_mem ‹_›; omega
  · have := snd_size ‹_›; omega
def Part.d : Part → D
  | .whole lo hi => .tuple [.str "whole", optD lo, optD hi]
  | .text lo hi => .tuple [.str "text", .int lo, optD hi]
  | .truth t => .tuple [.str "truth", optB t]
  | .nothing => .tuple [.str "nothing"]
  | .row k lo hi => .tuple [.str "row", .tuple (k.map fun p => p.d), .int lo, optD hi]
  | .record fs op => .tuple [.str "record", .tuple (fs.map fun f => .tuple [.str f.1, .tuple (f.2.1.map fun p => p.d), .bool f.2.2]), .bool op]
termination_by p => sizeOf p
decreasing_by
  all_goals simp_wf
  · have := List.sizeOf_lt_of_mem ‹_›; omega
  · rename_i h1 h2
    have a := List.sizeOf_lt_of_mem h2
    have b := List.sizeOf_lt_of_mem h1
    obtain ⟨x, y, z⟩ := f
    simp at a b ⊢
    omega
theorem vd_row (vs : List Val) : (Val.row vs).d = .tuple [.str "row", .tuple (vs.map Val.d)] := by rw [Val.d]
def pairD (p : Str × Val) : D := .tuple [.str p.1, p.2.d]
theorem vd_rec (ps : List (Str × Val)) : (Val.record ps).d = .tuple [.str "record", .tuple (ps.map pairD)] := by rw [Val.d]; rfl
def kd (k : Kind) : D := .tuple (k.map Part.d)
def fieldT (f : Field) : D := .tuple [.str f.1, kd f.2.1, .bool f.2.2]
theorem pd_row (k : Kind) (lo : Int) (hi : Option Int) : (Part.row k lo hi).d = .tuple [.str "row", kd k, .int lo, optD hi] := by rw [Part.d]; rfl
theorem pd_rec (fs : List Field) (op : Bool) : (Part.record fs op).d = .tuple [.str "record", .tuple (fs.map fieldT), .bool op] := by rw [Part.d]; rfl
theorem Val.ind {P : Val → Prop} (h1 : ∀ i, P (.whole i)) (h2 : ∀ s, P (.text s)) (h3 : ∀ b, P (.truth b)) (h4 : P .nothing) (h5 : ∀ vs, (∀ v ∈ vs, P v) → P (.row vs)) (h6 : ∀ ps, (∀ p ∈ ps, P p.2) → P (.record ps)) : ∀ v, P v := by
  have key : ∀ n v, sizeOf v < n → P v := by
    intro n
    induction n with
    | zero => intro v h; omega
    | succ n ih =>
      intro v h
      cases v with
      | whole i => exact h1 i
      | text s => exact h2 s
      | truth b => exact h3 b
      | nothing => exact h4
      | row vs => exact h5 vs fun v hv => ih v (by have := List.sizeOf_lt_of_mem hv; simp at h; omega)
      | record ps => exact h6 ps fun p hp => ih p.2 (by have := snd_size hp; simp at h; omega)
  exact fun v => key _ v (Nat.lt_succ_self _)
theorem Part.ind {P : Part → Prop} (h1 : ∀ lo hi, P (.whole lo hi)) (h2 : ∀ lo hi, P (.text lo hi)) (h3 : ∀ t, P (.truth t)) (h4 : P .nothing) (h5 : ∀ k lo hi, (∀ p ∈ k, P p) → P (.row k lo hi)) (h6 : ∀ fs op, (∀ f ∈ fs, ∀ p ∈ f.2.1, P p) → P (.record fs op)) : ∀ p, P p := by
  have key : ∀ n p, sizeOf p < n → P p := by
    intro n
    induction n with
    | zero => intro v h; omega
    | succ n ih =>
      intro v h
      cases v with
      | whole lo hi => exact h1 lo hi
      | text lo hi => exact h2 lo hi
      | truth b => exact h3 b
      | nothing => exact h4
      | row k lo hi => exact h5 k lo hi fun v hv => ih v (by have := List.sizeOf_lt_of_mem hv; simp at h; omega)
      | record fs op => exact h6 fs op fun f hf p hp => ih p (by
          have a := List.sizeOf_lt_of_mem hf
          have b := List.sizeOf_lt_of_mem hp
          obtain ⟨x, y, z⟩ := f
          simp at a b h
          omega)
  exact fun v => key _ v (Nat.lt_succ_self _)
/-! ### how deep -/
def maxN (l : List Nat) : Nat := l.foldr max 0
theorem le_maxN {l : List Nat} {n : Nat} (h : n ∈ l) : n ≤ maxN l := by
  induction l with
  | nil => cases h
  | cons a l ih =>
    show n ≤ max a (maxN l)
    rcases List.mem_cons.mp h with rfl | h
    · omega
    · have := ih h; omega
theorem maxN_le {l : List Nat} {m : Nat} (h : ∀ n ∈ l, n ≤ m) : maxN l ≤ m := by
  induction l with
  | nil => exact Nat.zero_le _
  | cons a l ih =>
    show max a (maxN l) ≤ m
    have := h a List.mem_cons_self
    have := ih fun n hn => h n (List.mem_cons_of_mem _ hn)
    omega
def Val.dp : Val → Nat
  | .row vs => 1 + maxN (vs.map fun v => v.dp)
  | .record ps => 1 + maxN (ps.map fun p => p.2.dp)
  | .whole _ => 0
  | .text _ => 0
  | .truth _ => 0
  | .nothing => 0
termination_by v => sizeOf v
decreasing_by
  all_goals simp_wf
  · have := List.sizeOf_lt_of_mem ‹_›; omega
  · have := snd_size ‹_›; omega
def Part.dp : Part → Nat
  | .row k _ _ => 1 + maxN (k.map fun p => p.dp)
  | .record fs _ => 1 + maxN (fs.map fun f => maxN (f.2.1.map fun p => p.dp))
  | .whole _ _ => 0
  | .text _ _ => 0
  | .truth _ => 0
  | .nothing => 0
termination_by p => sizeOf p
decreasing_by
  all_goals simp_wf
  · have := List.sizeOf_lt_of_mem ‹_›; omega
  · rename_i h1 h2
    have a := List.sizeOf_lt_of_mem h2
    have b := List.sizeOf_lt_of_mem h1
    obtain ⟨x, y, z⟩ := f
    simp at a b ⊢
    omega
def kdp (k : Kind) : Nat := maxN (k.map Part.dp)
theorem vdp_row (vs : List Val) : (Val.row vs).dp = 1 + maxN (vs.map Val.dp) := by rw [Val.dp]
theorem vdp_rec (ps : List (Str × Val)) : (Val.record ps).dp = 1 + maxN (ps.map fun p => p.2.dp) := by rw [Val.dp]
theorem vdp_row_mem {vs : List Val} {v : Val} (h : v ∈ vs) : v.dp < (Val.row vs).dp := by
  rw [vdp_row]
  have := le_maxN (List.mem_map.mpr ⟨v, h, rfl⟩ : v.dp ∈ vs.map Val.dp)
  omega
theorem vdp_rec_mem {ps : List (Str × Val)} {p : Str × Val} (h : p ∈ ps) : p.2.dp < (Val.record ps).dp := by
  rw [vdp_rec]
  have := le_maxN (List.mem_map.mpr ⟨p, h, rfl⟩ : p.2.dp ∈ ps.map fun p => p.2.dp)
  omega
theorem pdp_row (k : Kind) (lo : Int) (hi : Option Int) : (Part.row k lo hi).dp = 1 + kdp k := by rw [Part.dp]; rfl
theorem pdp_rec (fs : List Field) (op : Bool) : (Part.record fs op).dp = 1 + maxN (fs.map fun f => kdp f.2.1) := by rw [Part.dp]; rfl
theorem kdp_mem {k : Kind} {p : Part} (h : p ∈ k) : p.dp ≤ kdp k := le_maxN (List.mem_map.mpr ⟨p, h, rfl⟩)
theorem kdp_le {k : Kind} {n : Nat} (h : ∀ p ∈ k, p.dp ≤ n) : kdp k ≤ n := maxN_le fun m hm => by
  obtain ⟨p, hp, rfl⟩ := List.mem_map.mp hm
  exact h p hp
theorem pdp_field {fs : List Field} {op : Bool} {f : Field} (h : f ∈ fs) : kdp f.2.1 < (Part.record fs op).dp := by
  rw [pdp_rec]
  have := le_maxN (List.mem_map.mpr ⟨f, h, rfl⟩ : kdp f.2.1 ∈ fs.map fun f => kdp f.2.1)
  omega
/-! ### what a kind must keep -/
def Part.word : Part → Str
  | .whole _ _ => "whole"
  | .text _ _ => "text"
  | .truth _ => "truth"
  | .nothing => "nothing"
  | .row _ _ _ => "row"
  | .record _ _ => "record"
def Part.place : Part → Nat
  | .whole _ _ => 0
  | .text _ _ => 1
  | .truth _ => 2
  | .nothing => 3
  | .row _ _ _ => 4
  | .record _ _ => 5
def smI (i : Int) : Prop := i.natAbs < 10 ^ 40
theorem smI_of {i : Int} (h : i.natAbs ≤ 1000) : smI i := Nat.lt_of_le_of_lt h (by decide)
def bndOk : Option Int → Option Int → Prop
  | some a, some b => a ≤ b ∧ smI a ∧ smI b
  | some a, none => smI a
  | none, some b => smI b
  | none, none => True
def cntOk (lo : Int) : Option Int → Prop
  | some b => 0 ≤ lo ∧ lo ≤ b ∧ b ≤ 9
  | none => 0 ≤ lo ∧ lo ≤ 9
/-- rising names -/
def Rise (l : List Str) : Prop := l.Pairwise fun a b => ltS a b = true
def Names (l : List Str) : Prop := Rise l ∧ ∀ x ∈ l, isNameS x = true
/-- parts in their order -/
def Ordd (k : Kind) : Prop := k.Pairwise fun p q => p.place < q.place
inductive Part.ok (w : Nat) : Part → Prop
  | whole {lo hi} : bndOk lo hi → (w < 10 → ∀ x, hi = some x → x ≤ 9) → Part.ok w (.whole lo hi)
  | text {lo hi} : cntOk lo hi → Part.ok w (.text lo hi)
  | truth (t) : Part.ok w (.truth t)
  | nothing : Part.ok w .nothing
  | row {k lo hi} : cntOk lo hi → Ordd k → (∀ p ∈ k, Part.ok w p) → Part.ok w (.row k lo hi)
  | record {fs op} : Names (fs.map (·.1)) → fs.length ≤ w → (∀ f ∈ fs, Ordd f.2.1) → (∀ f ∈ fs, ∀ p ∈ f.2.1, Part.ok w p) → Part.ok w (.record fs op)
structure Kok (w : Nat) (k : Kind) : Prop where
  ord : Ordd k
  parts : ∀ p ∈ k, Part.ok w p
theorem Kok.row {w : Nat} {k : Kind} {lo hi} (h : Part.ok w (.row k lo hi)) : Kok w k ∧ cntOk lo hi := by
  cases h with
  | row a b c => exact ⟨⟨b, c⟩, a⟩
theorem Kok.field {w : Nat} {fs : List Field} {op} (h : Part.ok w (.record fs op)) : Names (fs.map (·.1)) ∧ fs.length ≤ w ∧ ∀ f ∈ fs, Kok w f.2.1 := by
  cases h with
  | record a b c d => exact ⟨a, b, fun f hf => ⟨c f hf, d f hf⟩⟩
inductive Val.ok (w : Nat) : Val → Prop
  | whole (i) : Val.ok w (.whole i)
  | text {s} : s.length ≤ 1000 → Val.ok w (.text s)
  | truth (b) : Val.ok w (.truth b)
  | nothing : Val.ok w .nothing
  | row {vs} : vs.length ≤ w → (∀ v ∈ vs, Val.ok w v) → Val.ok w (.row vs)
  | record {ps} : Names (ps.map (·.1)) → ps.length ≤ w → (∀ p ∈ ps, Val.ok w p.2) → Val.ok w (.record ps)
end G7

namespace G7
open PySem
local macro_rules | `(tactic| dsimp! only [$xs,*]) => `(tactic| simp only [e_var, e_glob, e_kI, e_kS, e_kB, e_kN, e_tp, e_ls, e_dn, e_op, e_ng, e_cmp, e_chn, e_an, e_orr, e_on, e_nt, e_it, e_ix, e_sl, e_cl, e_bt, e_is, e_lcm, x_nil, x_cons, sq_n, sq_r, sq_c, sq_b, x_asg, x_asgT, x_ret, x_retN, x_if, x_for, x_whl, x_app, x_ext, x_dput, x_pass, x_cont, x_brk, evalA, evalAB, evalC, evalI, bnd, bor, view, read, Env.at, Env.put, b_ok, b_bad, b_exc, b_ite, of_some, of_none, om_some, om_none, ob_some, calm_k, tr_b, tr_n, tr_i, tr_l, tr_t, fl_ret, fl_next, fl_ite, len_s, len_l, len_t, tup_l, int_b, initE, List.map_cons, List.map_nil, List.length_cons, List.length_nil, List.cons_append, List.nil_append, List.replicate, frzE, esc, escA, escB, escAB, escI, escC, op2, add_i, sub_i, cmpD, lt_i, lt_s, is_n, is_b, eq_s, eq_i, tup_at, lst_at, str_at, Sl.d, fresh, isCont, Bool.false_and, Bool.and_false, Bool.true_and, Bool.and_true, if_true, if_false, ite_true, ite_false, Nat.reduceAdd, Nat.reduceSub, bindT, bindT.bindTs, wipeE, Tg.slots, List.any_cons, List.any_nil, isTy, escJ, Bool.or_false, Bool.false_or, Bool.or_true, Bool.true_or, Bool.not_true, Bool.not_false, Bool.false_eq_true, seqD, decide_true, decide_false, nc_lit, eq_self, Int.reduceEq, Nat.reduceEqDiff, and_self, and_true, true_and, $xs,*])
theorem bor_glob (g : Nat) (ρ : Env) (v : Res D) : bor (.glob g) ρ v = v := rfl
theorem bor_kI (i : Int) (ρ : Env) (v : Res D) : bor (.kI i) ρ v = v := rfl
theorem bor_kS (s : Str) (ρ : Env) (v : Res D) : bor (.kS s) ρ v = v := rfl
theorem bor_kB (b : Bool) (ρ : Env) (v : Res D) : bor (.kB b) ρ v = v := rfl
theorem bor_kN  (ρ : Env) (v : Res D) : bor (.kN) ρ v = v := rfl
theorem bor_nil  (ρ : Env) (v : Res D) : bor (.nil) ρ v = v := rfl
theorem bor_cons (a b : E) (ρ : Env) (v : Res D) : bor (.cons a b) ρ v = v := rfl
theorem bor_tup (a : E) (ρ : Env) (v : Res D) : bor (.tup a) ρ v = v := rfl
theorem bor_lst (a : E) (ρ : Env) (v : Res D) : bor (.lst a) ρ v = v := rfl
theorem bor_dnew  (ρ : Env) (v : Res D) : bor (.dnew) ρ v = v := rfl
theorem bor_dct1 (a b : E) (ρ : Env) (v : Res D) : bor (.dct1 a b) ρ v = v := rfl
theorem bor_op (o : Op2) (a b : E) (ρ : Env) (v : Res D) : bor (.op o a b) ρ v = v := rfl
theorem bor_neg (a : E) (ρ : Env) (v : Res D) : bor (.neg a) ρ v = v := rfl
theorem bor_cmp (o : Cm) (a b : E) (ρ : Env) (v : Res D) : bor (.cmp o a b) ρ v = v := rfl
theorem bor_chain (o p : Cm) (a b c : E) (ρ : Env) (v : Res D) : bor (.chain o p a b c) ρ v = v := rfl
theorem bor_and (a b : E) (ρ : Env) (v : Res D) : bor (.and a b) ρ v = v := rfl
theorem bor_or (a b : E) (ρ : Env) (v : Res D) : bor (.or a b) ρ v = v := rfl
theorem bor_one (a : E) (ρ : Env) (v : Res D) : bor (.one a) ρ v = v := rfl
theorem bor_not (a : E) (ρ : Env) (v : Res D) : bor (.not a) ρ v = v := rfl
theorem bor_ite (a b c : E) (ρ : Env) (v : Res D) : bor (.ite a b c) ρ v = v := rfl
theorem bor_idx (a b : E) (ρ : Env) (v : Res D) : bor (.idx a b) ρ v = v := rfl
theorem bor_slc (a b c : E) (ρ : Env) (v : Res D) : bor (.slc a b c) ρ v = v := rfl
theorem bor_call (f : Nat) (a : E) (ρ : Env) (v : Res D) : bor (.call f a) ρ v = v := rfl
theorem bor_bt (b : Bt) (a : E) (ρ : Env) (v : Res D) : bor (.bt b a) ρ v = v := rfl
theorem bor_isi (a : E) (t : List Ty) (ρ : Env) (v : Res D) : bor (.isi a t) ρ v = v := rfl
theorem bor_lc (a : E) (t : Tg) (b c : E) (ρ : Env) (v : Res D) : bor (.lc a t b c) ρ v = v := rfl
theorem bor_var (i : Nat) (ρ : Env) (v : Res D) : bor (.var i) ρ v = view ρ i := rfl
def bndI (d : D) : Res (Option Int) := match d with
    | .int i => .ok (some i)
    | _ => .bad
theorem bnd_kN (v : Res D) : bnd .kN v = .ok none := rfl
theorem bnd_glob (g : Nat) (v : Res D) : bnd (.glob g) v = v.bind bndI := rfl
theorem bnd_kI (i : Int) (v : Res D) : bnd (.kI i) v = v.bind bndI := rfl
theorem bnd_kS (s : Str) (v : Res D) : bnd (.kS s) v = v.bind bndI := rfl
theorem bnd_kB (b : Bool) (v : Res D) : bnd (.kB b) v = v.bind bndI := rfl
theorem bnd_nil  (v : Res D) : bnd (.nil) v = v.bind bndI := rfl
theorem bnd_cons (a b : E) (v : Res D) : bnd (.cons a b) v = v.bind bndI := rfl
theorem bnd_tup (a : E) (v : Res D) : bnd (.tup a) v = v.bind bndI := rfl
theorem bnd_lst (a : E) (v : Res D) : bnd (.lst a) v = v.bind bndI := rfl
theorem bnd_dnew  (v : Res D) : bnd (.dnew) v = v.bind bndI := rfl
theorem bnd_dct1 (a b : E) (v : Res D) : bnd (.dct1 a b) v = v.bind bndI := rfl
theorem bnd_op (o : Op2) (a b : E) (v : Res D) : bnd (.op o a b) v = v.bind bndI := rfl
theorem bnd_neg (a : E) (v : Res D) : bnd (.neg a) v = v.bind bndI := rfl
theorem bnd_cmp (o : Cm) (a b : E) (v : Res D) : bnd (.cmp o a b) v = v.bind bndI := rfl
theorem bnd_chain (o p : Cm) (a b c : E) (v : Res D) : bnd (.chain o p a b c) v = v.bind bndI := rfl
theorem bnd_and (a b : E) (v : Res D) : bnd (.and a b) v = v.bind bndI := rfl
theorem bnd_or (a b : E) (v : Res D) : bnd (.or a b) v = v.bind bndI := rfl
theorem bnd_one (a : E) (v : Res D) : bnd (.one a) v = v.bind bndI := rfl
theorem bnd_not (a : E) (v : Res D) : bnd (.not a) v = v.bind bndI := rfl
theorem bnd_ite (a b c : E) (v : Res D) : bnd (.ite a b c) v = v.bind bndI := rfl
theorem bnd_idx (a b : E) (v : Res D) : bnd (.idx a b) v = v.bind bndI := rfl
theorem bnd_slc (a b c : E) (v : Res D) : bnd (.slc a b c) v = v.bind bndI := rfl
theorem bnd_call (f : Nat) (a : E) (v : Res D) : bnd (.call f a) v = v.bind bndI := rfl
theorem bnd_bt (b : Bt) (a : E) (v : Res D) : bnd (.bt b a) v = v.bind bndI := rfl
theorem bnd_isi (a : E) (t : List Ty) (v : Res D) : bnd (.isi a t) v = v.bind bndI := rfl
theorem bnd_lc (a : E) (t : Tg) (b c : E) (v : Res D) : bnd (.lc a t b c) v = v.bind bndI := rfl
theorem bnd_var (i : Nat) (v : Res D) : bnd (.var i) v = v.bind bndI := rfl
theorem view_s (x : Option Sl) (ρ : Env) (n : Nat) : view (x :: ρ) (n + 1) = view ρ n := rfl
theorem view_d (d : D) (ρ : Env) : view (some (.dat d) :: ρ) 0 = .ok d := rfl
theorem view_o (d : D) (ρ : Env) : view (some (.own d) :: ρ) 0 = .ok d := rfl
theorem view_l (d : D) (ρ : Env) : view (some (.lck d) :: ρ) 0 = .ok d := rfl
theorem read_s (x : Option Sl) (ρ : Env) (n : Nat) : read (x :: ρ) (n + 1) = read ρ n := rfl
theorem read_d (d : D) (ρ : Env) : read (some (.dat d) :: ρ) 0 = .ok d := rfl
theorem read_o (d : D) (ρ : Env) : read (some (.own d) :: ρ) 0 = .ok d := rfl
theorem at_s (x : Option Sl) (ρ : Env) (n : Nat) : Env.at (x :: ρ) (n + 1) = Env.at ρ n := rfl
theorem at_0 (x : Option Sl) (ρ : Env) : Env.at (x :: ρ) 0 = x := rfl
theorem put_s (x : Option Sl) (ρ : Env) (n : Nat) (y : Option Sl) : Env.put (x :: ρ) (n + 1) y = x :: Env.put ρ n y := rfl
theorem put_0 (x : Option Sl) (ρ : Env) (y : Option Sl) : Env.put (x :: ρ) 0 y = y :: ρ := rfl
def frz1 : Env → Nat → Env
  | [], _ => []
  | x :: r, 0 => (match x with
    | some (.own d) => some (.dat d)
    | x => x) :: r
  | x :: r, n + 1 => x :: frz1 r n
theorem frz1_eq : ∀ (ρ : Env) (j : Nat), (match ρ.at j with
    | some (.own d) => ρ.put j (some (.dat d))
    | _ => ρ) = frz1 ρ j
  | [], _ => rfl
  | x :: r, 0 => by
    show (match x with
      | some (.own d) => some (Sl.dat d) :: r
      | _ => x :: r) = _
    cases x with
    | none => rfl
    | some s => cases s <;> rfl
  | x :: r, n + 1 => by
    show (match Env.at r n with
      | some (.own d) => x :: Env.put r n (some (Sl.dat d))
      | _ => x :: r) = x :: frz1 r n
    rw [← frz1_eq r n]
    cases Env.at r n with
    | none => rfl
    | some s => cases s <;> rfl
theorem frz_nil (ρ : Env) : frzE ρ [] = ρ := rfl
theorem frz_cons (ρ : Env) (j : Nat) (js : List Nat) : frzE ρ (j :: js) = frz1 (frzE ρ js) j := by
  rw [← frz1_eq]
  rfl
theorem frz1_s (x : Option Sl) (r : Env) (n : Nat) : frz1 (x :: r) (n + 1) = x :: frz1 r n := rfl
theorem frz1_o (d : D) (r : Env) : frz1 (some (.own d) :: r) 0 = some (.dat d) :: r := rfl
theorem frz1_d (d : D) (r : Env) : frz1 (some (.dat d) :: r) 0 = some (.dat d) :: r := rfl
theorem frz1_l (d : D) (r : Env) : frz1 (some (.lck d) :: r) 0 = some (.lck d) :: r := rfl
theorem frz1_n (r : Env) : frz1 (none :: r) 0 = none :: r := rfl
theorem bt_nm (i : Nat) (d : D) (ρ : Env) : bindT (.nm i) d ρ = .ok (ρ.put i (some (.dat d))) := rfl
theorem bt_tp (t : Tg) (ds : List D) (ρ : Env) : bindT (.tp t) (.tuple ds) ρ = bindT.bindTs t ds ρ := rfl
theorem bts_nil (ρ : Env) : bindT.bindTs .nil [] ρ = .ok ρ := rfl
theorem bts_cons (t ts : Tg) (d : D) (ds : List D) (ρ : Env) : bindT.bindTs (.cons t ts) (d :: ds) ρ = (bindT t d ρ).bind (bindT.bindTs ts ds) := rfl
theorem wipe_nil (ρ : Env) : wipeE ρ [] = ρ := rfl
theorem wipe_cons (ρ : Env) (v : Nat) (vs : List Nat) : wipeE ρ (v :: vs) = (wipeE ρ vs).put v none := rfl
theorem seq_l (xs : List D) : seqD (.list xs) = some xs := rfl
theorem seq_t (xs : List D) : seqD (.tuple xs) = some xs := rfl
theorem seq_s (x : Str) : seqD (.str x) = some (x.cps.toList.map fun c => .str ⟨#[c]⟩) := rfl
theorem ad_t {a b : List D} (h : a.length + b.length ≤ 1000) : addD (.tuple a) (.tuple b) = some (.tuple (a ++ b)) := if_pos (Nat.le_trans h (by decide))
theorem ad_l {a b : List D} (h : a.length + b.length ≤ 1000) : addD (.list a) (.list b) = some (.list (a ++ b)) := if_pos (Nat.le_trans h (by decide))
theorem ng_i (a : Int) : negD (.int a) = some (.int (-a)) := rfl
theorem int_i (a : Int) : btD .int [.int a] = some (.int a) := rfl
theorem mx_i (a b : Int) : btD .max [.int a, .int b] = some (.int (if b > a then b else a)) := rfl
theorem mn_i (a b : Int) : btD .min [.int a, .int b] = some (.int (if b < a then b else a)) := rfl
theorem ai0 {α : Type} (a : α) (r : List α) : L2.atI (a :: r) 0 = some a := atI_nat (i := 0) (by simp)
theorem ai1 {α : Type} (a b : α) (r : List α) : L2.atI (a :: b :: r) 1 = some b := atI_nat (i := 1) (by simp)
theorem ai2 {α : Type} (a b c : α) (r : List α) : L2.atI (a :: b :: c :: r) 2 = some c := atI_nat (i := 2) (by simp)
theorem ai3 {α : Type} (a b c d : α) (r : List α) : L2.atI (a :: b :: c :: d :: r) 3 = some d := atI_nat (i := 3) (by simp)
theorem bq_tt : (true == true) = true := rfl
theorem bq_tf : (true == false) = false := rfl
theorem bq_ft : (false == true) = false := rfl
theorem bq_ff : (false == false) = true := rfl
local macro_rules | `(tactic| simp! only [$xs,*]) => `(tactic| simp -implicitDefEqProofs only [e_var, e_glob, e_kI, e_kS, e_kB, e_kN, e_tp, e_ls, e_dn, e_op, e_ng, e_cmp, e_chn, e_an, e_orr, e_on, e_nt, e_it, e_ix, e_sl, e_cl, e_bt, e_is, e_lcm, x_nil, x_cons, sq_n, sq_r, sq_c, sq_b, x_asg, x_asgT, x_ret, x_retN, x_if, x_for, x_whl, x_app, x_ext, x_dput, x_pass, x_cont, x_brk, evalA, evalAB, evalC, evalI, b_ok, b_bad, b_exc, b_ite, of_some, of_none, om_some, om_none, ob_some, calm_k, tr_b, tr_n, tr_i, tr_l, tr_t, fl_ret, fl_next, fl_ite, len_s, len_l, len_t, tup_l, int_b, initE, List.map_cons, List.map_nil, List.length_cons, List.length_nil, List.cons_append, List.nil_append, List.replicate, esc, escA, escB, escAB, escI, escC, op2, add_i, sub_i, cmpD, lt_i, lt_s, is_n, is_b, eq_s, eq_i, tup_at, lst_at, str_at, Sl.d, fresh, isCont, Bool.false_and, Bool.and_false, Bool.true_and, Bool.and_true, if_true, if_false, ite_true, ite_false, Nat.reduceAdd, Nat.reduceSub, Tg.slots, List.any_cons, List.any_nil, isTy, escJ, Bool.or_false, Bool.false_or, Bool.or_true, Bool.true_or, Bool.not_true, Bool.not_false, Bool.false_eq_true, decide_true, decide_false, nc_lit, eq_self, Int.reduceEq, Nat.reduceEqDiff, and_self, and_true, true_and, ofS_inj, String.reduceEq, W_ok, W_ite, b_assoc, bk_r, bk_n, tn_n, tn_c, tn_b, tn_r, decide_eq_true_eq, Bool.not_eq_true', decide_eq_false_iff_not, Nat.add_sub_cancel, List.append_nil, List.not_mem_nil, not_true_eq_false, not_false_eq_true, ownK, ownL, dKey, Bool.true_eq_false, List.mem_cons, or_self, or_false, false_or, List.filter_cons, List.filter_nil, List.contains_cons, List.contains_nil, Nat.reduceBEq, Nat.reduceLeDiff, Int.reduceLT, Int.reduceLE, Int.reduceNeg, Nat.zero_add, bor_var, bnd_kN, bndI, view_s, view_d, view_o, view_l, read_s, read_d, read_o, at_s, at_0, put_s, put_0, frz_nil, frz_cons, frz1_s, frz1_o, frz1_d, frz1_l, frz1_n, bt_nm, bt_tp, bts_nil, bts_cons, wipe_nil, wipe_cons, seq_l, seq_t, seq_s, bq_tt, bq_tf, bq_ft, bq_ff, ad_t, ad_l, ai0, ai1, ai2, ai3, ng_i, int_i, mx_i, mn_i, bor_glob, bor_kI, bor_kS, bor_kB, bor_kN, bor_nil, bor_cons, bor_tup, bor_lst, bor_dnew, bor_dct1, bor_op, bor_neg, bor_cmp, bor_chain, bor_and, bor_or, bor_one, bor_not, bor_ite, bor_idx, bor_slc, bor_call, bor_bt, bor_isi, bor_lc, bnd_glob, bnd_kI, bnd_kS, bnd_kB, bnd_nil, bnd_cons, bnd_tup, bnd_lst, bnd_dnew, bnd_dct1, bnd_op, bnd_neg, bnd_cmp, bnd_chain, bnd_and, bnd_or, bnd_one, bnd_not, bnd_ite, bnd_idx, bnd_slc, bnd_call, bnd_bt, bnd_isi, bnd_lc, bnd_var, $xs,*])
end G7

namespace G7
open PySem
local macro_rules | `(tactic| dsimp! only [$xs,*]) => `(tactic| simp only [e_var, e_glob, e_kI, e_kS, e_kB, e_kN, e_tp, e_ls, e_dn, e_op, e_ng, e_cmp, e_chn, e_an, e_orr, e_on, e_nt, e_it, e_ix, e_sl, e_cl, e_bt, e_is, e_lcm, x_nil, x_cons, sq_n, sq_r, sq_c, sq_b, x_asg, x_asgT, x_ret, x_retN, x_if, x_for, x_whl, x_app, x_ext, x_dput, x_pass, x_cont, x_brk, evalA, evalAB, evalC, evalI, bnd, bor, view, read, Env.at, Env.put, b_ok, b_bad, b_exc, b_ite, of_some, of_none, om_some, om_none, ob_some, calm_k, tr_b, tr_n, tr_i, tr_l, tr_t, fl_ret, fl_next, fl_ite, len_s, len_l, len_t, tup_l, int_b, initE, List.map_cons, List.map_nil, List.length_cons, List.length_nil, List.cons_append, List.nil_append, List.replicate, frzE, esc, escA, escB, escAB, escI, escC, op2, add_i, sub_i, cmpD, lt_i, lt_s, is_n, is_b, eq_s, eq_i, tup_at, lst_at, str_at, Sl.d, fresh, isCont, Bool.false_and, Bool.and_false, Bool.true_and, Bool.and_true, if_true, if_false, ite_true, ite_false, Nat.reduceAdd, Nat.reduceSub, bindT, bindT.bindTs, wipeE, Tg.slots, List.any_cons, List.any_nil, isTy, escJ, Bool.or_false, Bool.false_or, Bool.or_true, Bool.true_or, Bool.not_true, Bool.not_false, Bool.false_eq_true, seqD, decide_true, decide_false, nc_lit, eq_self, Int.reduceEq, Nat.reduceEqDiff, and_self, and_true, true_and, $xs,*])
local macro_rules | `(tactic| simp! only [$xs,*]) => `(tactic| simp -implicitDefEqProofs only [e_var, e_glob, e_kI, e_kS, e_kB, e_kN, e_tp, e_ls, e_dn, e_op, e_ng, e_cmp, e_chn, e_an, e_orr, e_on, e_nt, e_it, e_ix, e_sl, e_cl, e_bt, e_is, e_lcm, x_nil, x_cons, sq_n, sq_r, sq_c, sq_b, x_asg, x_asgT, x_ret, x_retN, x_if, x_for, x_whl, x_app, x_ext, x_dput, x_pass, x_cont, x_brk, evalA, evalAB, evalC, evalI, b_ok, b_bad, b_exc, b_ite, of_some, of_none, om_some, om_none, ob_some, calm_k, tr_b, tr_n, tr_i, tr_l, tr_t, fl_ret, fl_next, fl_ite, len_s, len_l, len_t, tup_l, int_b, initE, List.map_cons, List.map_nil, List.length_cons, List.length_nil, List.cons_append, List.nil_append, List.replicate, esc, escA, escB, escAB, escI, escC, op2, add_i, sub_i, cmpD, lt_i, lt_s, is_n, is_b, eq_s, eq_i, tup_at, lst_at, str_at, Sl.d, fresh, isCont, Bool.false_and, Bool.and_false, Bool.true_and, Bool.and_true, if_true, if_false, ite_true, ite_false, Nat.reduceAdd, Nat.reduceSub, Tg.slots, List.any_cons, List.any_nil, isTy, escJ, Bool.or_false, Bool.false_or, Bool.or_true, Bool.true_or, Bool.not_true, Bool.not_false, Bool.false_eq_true, decide_true, decide_false, nc_lit, eq_self, Int.reduceEq, Nat.reduceEqDiff, and_self, and_true, true_and, ofS_inj, String.reduceEq, W_ok, W_ite, b_assoc, bk_r, bk_n, tn_n, tn_c, tn_b, tn_r, decide_eq_true_eq, Bool.not_eq_true', decide_eq_false_iff_not, Nat.add_sub_cancel, List.append_nil, List.not_mem_nil, not_true_eq_false, not_false_eq_true, ownK, ownL, dKey, Bool.true_eq_false, List.mem_cons, or_self, or_false, false_or, List.filter_cons, List.filter_nil, List.contains_cons, List.contains_nil, Nat.reduceBEq, Nat.reduceLeDiff, Int.reduceLT, Int.reduceLE, Int.reduceNeg, Nat.zero_add, bor_var, bnd_kN, bndI, view_s, view_d, view_o, view_l, read_s, read_d, read_o, at_s, at_0, put_s, put_0, frz_nil, frz_cons, frz1_s, frz1_o, frz1_d, frz1_l, frz1_n, bt_nm, bt_tp, bts_nil, bts_cons, wipe_nil, wipe_cons, seq_l, seq_t, seq_s, bq_tt, bq_tf, bq_ft, bq_ff, ad_t, ad_l, ai0, ai1, ai2, ai3, ng_i, int_i, mx_i, mn_i, bor_glob, bor_kI, bor_kS, bor_kB, bor_kN, bor_nil, bor_cons, bor_tup, bor_lst, bor_dnew, bor_dct1, bor_op, bor_neg, bor_cmp, bor_chain, bor_and, bor_or, bor_one, bor_not, bor_ite, bor_idx, bor_slc, bor_call, bor_bt, bor_isi, bor_lc, bnd_glob, bnd_kI, bnd_kS, bnd_kB, bnd_nil, bnd_cons, bnd_tup, bnd_lst, bnd_dnew, bnd_dct1, bnd_op, bnd_neg, bnd_cmp, bnd_chain, bnd_and, bnd_or, bnd_one, bnd_not, bnd_ite, bnd_idx, bnd_slc, bnd_call, bnd_bt, bnd_isi, bnd_lc, bnd_var, $xs,*])
/-! ### rising lists of names -/
theorem ltS_tr {a b c : Str} (h1 : ltS a b = true) (h2 : ltS b c = true) : ltS a c = true := by
  rw [ltS_iff] at *
  exact List.lt_trans h1 h2
theorem ltS_tot (a b : Str) : ltS a b = true ∨ a = b ∨ ltS b a = true := by
  cases h1 : ltS a b with
  | true => exact .inl rfl
  | false =>
    cases h2 : ltS b a with
    | true => exact .inr (.inr rfl)
    | false => exact .inr (.inl (LeS.anti h2 h1))
theorem Rise.nodup {l : List Str} (h : Rise l) : l.Nodup := by
  refine List.Pairwise.imp (fun {a b} hab e => ?_) h
  subst e
  rw [ltS_irr] at hab
  cases hab
theorem Rise.le {l : List Str} (h : Rise l) : l.Pairwise LeS := List.Pairwise.imp (fun {a b} hab => LeS.of_lt hab) h
theorem rise_of {l : List Str} (h : l.Pairwise LeS) (n : l.Nodup) : Rise l := by
  refine List.Pairwise.imp (fun {a b} hab => ?_) (List.pairwise_and_iff.mpr ⟨h, n⟩)
  rcases ltS_tot a b with h | h | h
  · exact h
  · exact absurd h hab.2
  · have := hab.1; unfold LeS at this; rw [h] at this; cases this
theorem rise_sort {l : List Str} (n : l.Nodup) : Rise (sortS l) := rise_of (sortS_sorted l) ((sortS_perm l).nodup_iff.mpr n)
/-- by their members -/
theorem rise_ext {l m : List Str} (hl : Rise l) (hm : Rise m) (h : ∀ x, x ∈ l ↔ x ∈ m) : l = m :=
  sorted_one ((List.perm_ext_iff_of_nodup hl.nodup hm.nodup).mpr h) hl.le hm.le
theorem sort_rise {l : List Str} (h : Rise l) : sortS l = l := rise_ext (rise_sort h.nodup) h fun x => (sortS_perm l).mem_iff
theorem ded_mem : ∀ (l : List Str) (x : Str), x ∈ dedS l ↔ x ∈ l
  | [], x => Iff.rfl
  | y :: l, x => by
    unfold dedS
    split
    · rename_i h
      rw [ded_mem l x, List.mem_cons]
      exact ⟨.inr, fun z => z.elim (fun e => e ▸ h) id⟩
    · rw [List.mem_cons, List.mem_cons, ded_mem l x]
theorem ded_nodup : ∀ l : List Str, (dedS l).Nodup
  | [] => List.nodup_nil
  | y :: l => by
    unfold dedS
    split
    · exact ded_nodup l
    · rename_i h
      exact List.nodup_cons.mpr ⟨fun z => h ((ded_mem l y).mp z), ded_nodup l⟩
theorem ded_len : ∀ l : List Str, (dedS l).length ≤ l.length
  | [] => Nat.le_refl _
  | y :: l => by
    unfold dedS
    have := ded_len l
    split <;> (simp only [List.length_cons]; omega)
/-- sorted(set(..)) -/
def namesOf (l : List Str) : List Str := sortS (dedS l)
theorem nm_rise (l : List Str) : Rise (namesOf l) := rise_sort (ded_nodup l)
theorem nm_mem {l : List Str} {x : Str} : x ∈ namesOf l ↔ x ∈ l := ((sortS_perm _).mem_iff).trans (ded_mem l x)
theorem nm_len (l : List Str) : (namesOf l).length ≤ l.length := by unfold namesOf; rw [(sortS_perm _).length_eq]; exact ded_len l
theorem setD_str {l : List Str} (h : l.length < 64) : setD (l.map .str) = some (.list ((namesOf l).map .str)) := by
  unfold setD
  have e : strsD (l.map .str) = some l := by have := strsD_map (fun x : Str => x) l; simpa using this
  rw [e]
  show (if l.length < 64 then _ else none) = _
  rw [if_pos h]
  rfl
theorem srtD_str {l : List Str} (h : l.length < 64) : srtD (l.map .str) = some (.list ((sortS l).map .str)) := by
  unfold srtD
  have e : strsD (l.map .str) = some l := by have := strsD_map (fun x : Str => x) l; simpa using this
  rw [e]
  show (if l.length < 64 then _ else none) = _
  rw [if_pos h]
theorem rises_iff : ∀ l : List Str, risesL l = true ↔ Rise l
  | [] => by simp [risesL, Rise]
  | [x] => by simp [risesL, Rise]
  | x :: y :: l => by
    show (ltS x y && risesL (y :: l)) = true ↔ Rise (x :: y :: l)
    rw [Bool.and_eq_true, rises_iff (y :: l)]
    constructor
    · rintro ⟨h1, h2⟩
      refine List.pairwise_cons.mpr ⟨fun z hz => ?_, h2⟩
      rcases List.mem_cons.mp hz with rfl | hz
      · exact h1
      · exact ltS_tr h1 ((List.pairwise_cons.mp h2).1 z hz)
    · intro h
      exact ⟨(List.pairwise_cons.mp h).1 y List.mem_cons_self, (List.pairwise_cons.mp h).2⟩
/-! ### dicts of texts -/
section
variable {β : Type}
def encJ (j : β → D) (l : List (Str × β)) : List (D × D) := l.map fun p => (.str p.1, j p.2)
def putA (l : List (Str × β)) (x : Str) (v : β) : List (Str × β) := if x ∈ l.map (·.1) then l.map (fun p => if p.1 = x then (p.1, v) else p) else l ++ [(x, v)]
def getA (l : List (Str × β)) (x : Str) : Option β := (l.find? fun p => decide (p.1 = x)).map (·.2)
theorem encJ_nil (j : β → D) : encJ j [] = [] := rfl
theorem put_encJ (j : β → D) (l : List (Str × β)) (x : Str) (v : β) : putD (encJ j l) (.inr x) (j v) = encJ j (putA l x v) := by
  unfold putD putA encJ
  have e : ((l.map fun p => (PyData.str p.1, j p.2)).any fun kv => decide (dKey kv.1 = some (.inr x))) = decide (x ∈ l.map (·.1)) := by
    rw [List.any_map]
    rw [Bool.eq_iff_iff]
    simp only [List.any_eq_true, Function.comp, decide_eq_true_eq, List.mem_map, dKey_str]
  rw [e]
  by_cases h : x ∈ l.map (·.1)
  · rw [if_pos (decide_eq_true h), if_pos h, List.map_map, List.map_map]
    refine List.map_congr_left fun p _ => ?_
    show (if dKey (PyData.str p.1) = some (.inr x) then (PyData.str p.1, j v) else (PyData.str p.1, j p.2)) = _
    simp only [dKey_str, Function.comp]
    split <;> rfl
  · rw [if_neg (by simpa using h), if_neg h, List.map_append]
    rfl
theorem look_encJ (j : β → D) (l : List (Str × β)) (x : Str) : lookD (encJ j l) (.inr x) = (getA l x).map j := by
  unfold lookD encJ getA
  rw [List.find?_map, Option.map_map, Option.map_map]
  have : ((fun kv : D × D => decide (dKey kv.1 = some (.inr x))) ∘ fun p : Str × β => (PyData.str p.1, j p.2)) = fun p => decide (p.1 = x) := by
    funext p
    simp only [Function.comp, dKey_str]
  rw [this]
  rfl
theorem getA_some {l : List (Str × β)} {x : Str} {v : β} (h : getA l x = some v) : (x, v) ∈ l := by
  unfold getA at h
  obtain ⟨p, hp, rfl⟩ := Option.map_eq_some_iff.mp h
  have h1 := List.mem_of_find?_eq_some hp
  have h2 := List.find?_some hp
  simp only [decide_eq_true_eq] at h2
  rw [← h2]
  exact h1
theorem getA_isSome {l : List (Str × β)} {x : Str} : (getA l x).isSome = decide (x ∈ l.map (·.1)) := by
  unfold getA
  rw [Option.isSome_map, Bool.eq_iff_iff, List.find?_isSome]
  simp only [decide_eq_true_eq, List.mem_map]
theorem getA_none {l : List (Str × β)} {x : Str} : getA l x = none ↔ x ∉ l.map (·.1) := by
  have := getA_isSome (l := l) (x := x)
  constructor
  · intro h; rw [h] at this; simpa using this.symm
  · intro h; rw [decide_eq_false h] at this; cases e : getA l x with
    | none => rfl
    | some v => rw [e] at this; cases this
theorem getA_mem {l : List (Str × β)} (nd : (l.map (·.1)).Nodup) {p : Str × β} (h : p ∈ l) : getA l p.1 = some p.2 := by
  cases e : getA l p.1 with
  | none => exact absurd (List.mem_map.mpr ⟨p, h, rfl⟩) (getA_none.mp e)
  | some v =>
    have h2 := getA_some e
    have : p = (p.1, v) := by
      clear e
      induction l with
      | nil => cases h
      | cons q l ih =>
        rw [List.map_cons, List.nodup_cons] at nd
        rcases List.mem_cons.mp h with rfl | h
        · rcases List.mem_cons.mp h2 with h2 | h2
          · exact h2.symm
          · exact absurd (List.mem_map.mpr ⟨_, h2, rfl⟩) nd.1
        · rcases List.mem_cons.mp h2 with rfl | h2
          · exact absurd (List.mem_map.mpr ⟨p, by assumption, rfl⟩) nd.1
          · exact ih nd.2 (by assumption) h2
    rw [this]
theorem in_encJ (j : β → D) (l : List (Str × β)) (x : Str) : inD (.str x) (.dict (encJ j l)) = some (decide (x ∈ l.map (·.1))) := by
  show (some ((lookD (encJ j l) (.inr x)).isSome) : Option Bool) = _
  rw [look_encJ, Option.isSome_map, getA_isSome]
theorem idx_encJ (j : β → D) (l : List (Str × β)) (x : Str) : idxD (.dict (encJ j l)) (.str x) = (getA l x).map j := look_encJ j l x
theorem putA_keys (l : List (Str × β)) (x : Str) (v : β) : (putA l x v).map (·.1) = if x ∈ l.map (·.1) then l.map (·.1) else l.map (·.1) ++ [x] := by
  unfold putA
  split
  · rw [List.map_map]
    refine List.map_congr_left fun p _ => ?_
    simp only [Function.comp]
    split <;> rfl
  · simp
theorem putA_key {l : List (Str × β)} {x y : Str} {v : β} : y ∈ (putA l x v).map (·.1) ↔ y ∈ l.map (·.1) ∨ y = x := by
  rw [putA_keys]
  split
  · rename_i h
    exact ⟨.inl, fun z => z.elim id fun e => e ▸ h⟩
  · rw [List.mem_append]; simp
theorem putA_mem {l : List (Str × β)} {x : Str} {v : β} {p : Str × β} (h : p ∈ putA l x v) : (p ∈ l ∧ p.1 ≠ x) ∨ p = (x, v) := by
  unfold putA at h
  split at h
  · obtain ⟨q, hq, rfl⟩ := List.mem_map.mp h
    split
    · rename_i e
      exact .inr (by rw [e])
    · rename_i e
      exact .inl ⟨hq, e⟩
  · rename_i hx
    rcases List.mem_append.mp h with h | h
    · exact .inl ⟨h, fun e => hx (e ▸ List.mem_map.mpr ⟨p, h, rfl⟩)⟩
    · exact .inr (by simpa using h)
theorem putA_nodup {l : List (Str × β)} (h : (l.map (·.1)).Nodup) (x : Str) (v : β) : ((putA l x v).map (·.1)).Nodup := by
  rw [putA_keys]
  split
  · exact h
  · rename_i hx
    rw [List.nodup_append]
    refine ⟨h, by simp, fun a ha b hb => ?_⟩
    simp only [List.mem_cons, List.not_mem_nil, or_false] at hb
    subst hb
    exact fun e => hx (e ▸ ha)
theorem putA_len (l : List (Str × β)) (x : Str) (v : β) : (putA l x v).length ≤ l.length + 1 := by
  unfold putA
  split
  · rw [List.length_map]; omega
  · simp
theorem encJ_len (j : β → D) (l : List (Str × β)) : (encJ j l).length = l.length := List.length_map _
/-- by rising keys -/
def sortA (l : List (Str × β)) : List (Str × β) := (sortS (l.map (·.1))).filterMap fun x => (getA l x).map fun v => (x, v)
theorem sortA_keys (l : List (Str × β)) : (sortA l).map (·.1) = sortS (l.map (·.1)) := by
  unfold sortA
  have key : ∀ ks : List Str, (∀ k ∈ ks, k ∈ l.map (·.1)) → (ks.filterMap fun x => (getA l x).map fun v => (x, v)).map (·.1) = ks := by
    intro ks
    induction ks with
    | nil => intro _; rfl
    | cons k ks ih =>
      intro h
      rw [List.filterMap_cons]
      cases e : getA l k with
      | none => exact absurd (h k List.mem_cons_self) (getA_none.mp e)
      | some v =>
        show k :: _ = _
        rw [ih fun k' h' => h k' (List.mem_cons_of_mem _ h')]
  exact key _ fun k hk => (sortS_perm _).mem_iff.mp hk
theorem sortA_mem {l : List (Str × β)} {p : Str × β} (h : p ∈ sortA l) : p ∈ l ∧ getA l p.1 = some p.2 := by
  unfold sortA at h
  obtain ⟨x, hx, e⟩ := List.mem_filterMap.mp h
  obtain ⟨v, hv, rfl⟩ := Option.map_eq_some_iff.mp e
  exact ⟨getA_some hv, hv⟩
theorem sortA_mem_iff {l : List (Str × β)} (nd : (l.map (·.1)).Nodup) {p : Str × β} : p ∈ sortA l ↔ p ∈ l := by
  refine ⟨fun h => (sortA_mem h).1, fun h => ?_⟩
  unfold sortA
  exact List.mem_filterMap.mpr ⟨p.1, (sortS_perm _).mem_iff.mpr (List.mem_map.mpr ⟨p, h, rfl⟩), by rw [getA_mem nd h]; rfl⟩
theorem sortA_rise {l : List (Str × β)} (nd : (l.map (·.1)).Nodup) : Rise ((sortA l).map (·.1)) := by rw [sortA_keys]; exact rise_sort nd
theorem sortA_len (l : List (Str × β)) : (sortA l).length = l.length := by
  have := congrArg List.length (sortA_keys l)
  rw [List.length_map, (sortS_perm _).length_eq, List.length_map] at this
  exact this
theorem sort_str (l : List (Str × β)) : (sortS (l.map (·.1))).map PyData.str = (sortA l).map fun p => .str p.1 := by
  rw [← sortA_keys, List.map_map]
  rfl
theorem srt_encJ (j : β → D) {l : List (Str × β)} (h : l.length < 64) : btD .sorted [.dict (encJ j l)] = some (.list ((sortA l).map fun p => .str p.1)) := by
  rw [srt_d]
  have : (encJ j l).map (·.1) = (l.map (·.1)).map PyData.str := by unfold encJ; rw [List.map_map, List.map_map]; rfl
  rw [this, srtD_str (by rw [List.length_map]; exact h), sort_str]
theorem pairsD_map (j : β → D) : ∀ l : List (Str × β), pairsD (l.map fun p => .tuple [.str p.1, j p.2]) = some (encJ j l)
  | [] => rfl
  | p :: l => by
    show (pairsD (l.map fun p => .tuple [.str p.1, j p.2])).map _ = _
    rw [pairsD_map j l]
    rfl
theorem merge_encJ (j : β → D) : ∀ (l acc : List (Str × β)), mergeD (encJ j acc) (encJ j l) = encJ j (l.foldl (fun a p => putA a p.1 p.2) acc)
  | [], acc => rfl
  | p :: l, acc => by
    show mergeD (putD (encJ j acc) (.inr p.1) (j p.2)) (encJ j l) = _
    rw [put_encJ, merge_encJ j l]
    rfl
theorem fold_put : ∀ (l acc : List (Str × β)), ((acc ++ l).map (·.1)).Nodup → l.foldl (fun a p => putA a p.1 p.2) acc = acc ++ l
  | [], acc, _ => by simp
  | p :: l, acc, h => by
    have : p.1 ∉ acc.map (·.1) := by
      rw [List.map_append, List.nodup_append] at h
      exact fun z => h.2.2 p.1 z p.1 (by simp) rfl
    rw [List.foldl_cons]
    have e : putA acc p.1 p.2 = acc ++ [p] := by unfold putA; rw [if_neg this]
    rw [e, fold_put l (acc ++ [p]) (by simpa using h)]
    simp
theorem dict_encJ (j : β → D) {l : List (Str × β)} (nd : (l.map (·.1)).Nodup) : btD .dict [.list (l.map fun p => .tuple [.str p.1, j p.2])] = some (.dict (encJ j l)) := by
  show (pairsD _).map (fun ps => PyData.dict (mergeD [] ps)) = _
  rw [pairsD_map]
  show some (PyData.dict (mergeD (encJ j []) (encJ j l))) = _
  rw [merge_encJ, fold_put l [] (by simpa using nd)]
  rfl
theorem dict_encT (j : β → D) {l : List (Str × β)} (nd : (l.map (·.1)).Nodup) : btD .dict [.tuple (l.map fun p => .tuple [.str p.1, j p.2])] = some (.dict (encJ j l)) := dict_encJ j nd
theorem list_encJ (j : β → D) (l : List (Str × β)) : btD .list [.dict (encJ j l)] = some (.list ((l.map (·.1)).map .str)) := by
  show some (PyData.list ((encJ j l).map (·.1))) = _
  unfold encJ
  rw [List.map_map, List.map_map]
  rfl
theorem encJ_size (j : β → D) {l : List (Str × β)} (h : l.length ≤ 1000) : (encJ j l).length < sizeLine := by
  rw [encJ_len]
  exact Nat.lt_of_le_of_lt h (by decide)
end
end G7

namespace G7
open PySem
local macro_rules | `(tactic| dsimp! only [$xs,*]) => `(tactic| simp only [e_var, e_glob, e_kI, e_kS, e_kB, e_kN, e_tp, e_ls, e_dn, e_op, e_ng, e_cmp, e_chn, e_an, e_orr, e_on, e_nt, e_it, e_ix, e_sl, e_cl, e_bt, e_is, e_lcm, x_nil, x_cons, sq_n, sq_r, sq_c, sq_b, x_asg, x_asgT, x_ret, x_retN, x_if, x_for, x_whl, x_app, x_ext, x_dput, x_pass, x_cont, x_brk, evalA, evalAB, evalC, evalI, bnd, bor, view, read, Env.at, Env.put, b_ok, b_bad, b_exc, b_ite, of_some, of_none, om_some, om_none, ob_some, calm_k, tr_b, tr_n, tr_i, tr_l, tr_t, fl_ret, fl_next, fl_ite, len_s, len_l, len_t, tup_l, int_b, initE, List.map_cons, List.map_nil, List.length_cons, List.length_nil, List.cons_append, List.nil_append, List.replicate, frzE, esc, escA, escB, escAB, escI, escC, op2, add_i, sub_i, cmpD, lt_i, lt_s, is_n, is_b, eq_s, eq_i, tup_at, lst_at, str_at, Sl.d, fresh, isCont, Bool.false_and, Bool.and_false, Bool.true_and, Bool.and_true, if_true, if_false, ite_true, ite_false, Nat.reduceAdd, Nat.reduceSub, bindT, bindT.bindTs, wipeE, Tg.slots, List.any_cons, List.any_nil, isTy, escJ, Bool.or_false, Bool.false_or, Bool.or_true, Bool.true_or, Bool.not_true, Bool.not_false, Bool.false_eq_true, seqD, decide_true, decide_false, nc_lit, eq_self, Int.reduceEq, Nat.reduceEqDiff, and_self, and_true, true_and, $xs,*])
local macro_rules | `(tactic| simp! only [$xs,*]) => `(tactic| simp -implicitDefEqProofs only [e_var, e_glob, e_kI, e_kS, e_kB, e_kN, e_tp, e_ls, e_dn, e_op, e_ng, e_cmp, e_chn, e_an, e_orr, e_on, e_nt, e_it, e_ix, e_sl, e_cl, e_bt, e_is, e_lcm, x_nil, x_cons, sq_n, sq_r, sq_c, sq_b, x_asg, x_asgT, x_ret, x_retN, x_if, x_for, x_whl, x_app, x_ext, x_dput, x_pass, x_cont, x_brk, evalA, evalAB, evalC, evalI, b_ok, b_bad, b_exc, b_ite, of_some, of_none, om_some, om_none, ob_some, calm_k, tr_b, tr_n, tr_i, tr_l, tr_t, fl_ret, fl_next, fl_ite, len_s, len_l, len_t, tup_l, int_b, initE, List.map_cons, List.map_nil, List.length_cons, List.length_nil, List.cons_append, List.nil_append, List.replicate, esc, escA, escB, escAB, escI, escC, op2, add_i, sub_i, cmpD, lt_i, lt_s, is_n, is_b, eq_s, eq_i, tup_at, lst_at, str_at, Sl.d, fresh, isCont, Bool.false_and, Bool.and_false, Bool.true_and, Bool.and_true, if_true, if_false, ite_true, ite_false, Nat.reduceAdd, Nat.reduceSub, Tg.slots, List.any_cons, List.any_nil, isTy, escJ, Bool.or_false, Bool.false_or, Bool.or_true, Bool.true_or, Bool.not_true, Bool.not_false, Bool.false_eq_true, decide_true, decide_false, nc_lit, eq_self, Int.reduceEq, Nat.reduceEqDiff, and_self, and_true, true_and, ofS_inj, String.reduceEq, W_ok, W_ite, b_assoc, bk_r, bk_n, tn_n, tn_c, tn_b, tn_r, decide_eq_true_eq, Bool.not_eq_true', decide_eq_false_iff_not, Nat.add_sub_cancel, List.append_nil, List.not_mem_nil, not_true_eq_false, not_false_eq_true, ownK, ownL, dKey, Bool.true_eq_false, List.mem_cons, or_self, or_false, false_or, List.filter_cons, List.filter_nil, List.contains_cons, List.contains_nil, Nat.reduceBEq, Nat.reduceLeDiff, Int.reduceLT, Int.reduceLE, Int.reduceNeg, Nat.zero_add, bor_var, bnd_kN, bndI, view_s, view_d, view_o, view_l, read_s, read_d, read_o, at_s, at_0, put_s, put_0, frz_nil, frz_cons, frz1_s, frz1_o, frz1_d, frz1_l, frz1_n, bt_nm, bt_tp, bts_nil, bts_cons, wipe_nil, wipe_cons, seq_l, seq_t, seq_s, bq_tt, bq_tf, bq_ft, bq_ff, ad_t, ad_l, ai0, ai1, ai2, ai3, ng_i, int_i, mx_i, mn_i, bor_glob, bor_kI, bor_kS, bor_kB, bor_kN, bor_nil, bor_cons, bor_tup, bor_lst, bor_dnew, bor_dct1, bor_op, bor_neg, bor_cmp, bor_chain, bor_and, bor_or, bor_one, bor_not, bor_ite, bor_idx, bor_slc, bor_call, bor_bt, bor_isi, bor_lc, bnd_glob, bnd_kI, bnd_kS, bnd_kB, bnd_nil, bnd_cons, bnd_tup, bnd_lst, bnd_dnew, bnd_dct1, bnd_op, bnd_neg, bnd_cmp, bnd_chain, bnd_and, bnd_or, bnd_one, bnd_not, bnd_ite, bnd_idx, bnd_slc, bnd_call, bnd_bt, bnd_isi, bnd_lc, bnd_var, $xs,*])
theorem range_split {m : Nat} {p q : List Nat} {a : Nat} (h : List.range m = p ++ a :: q) : a = p.length ∧ a < m := by
  have h1 : (List.range m)[p.length]? = some a := by rw [h]; simp
  have hl : p.length < m := by
    have := congrArg List.length h
    simp at this
    omega
  rw [List.getElem?_range hl] at h1
  injection h1 with h1
  exact ⟨h1.symm, by omega⟩
theorem mix_c {n : Nat} (hn : 1 ≤ n) (c : Int) {p m : Int} (hp : 0 < p) (hm : 0 < m) : callF GC XC M n 8 [.int c, .int p, .int m] = .ok (.int (mixI c p m)) := by
  obtain ⟨k, rfl⟩ : ∃ k, n = k + 1 := ⟨n - 1, by omega⟩
  exact mix_ok k c p m hp hm
/-- a drawn number: its text, and between which it lies -/
theorem mix_x {n : Nat} (hn : 1 ≤ n) (c : Int) (p m : Int) (hp : 0 < p) (hm : 0 < m) : ∃ x, callF GC XC M n 8 [.int c, .int p, .int m] = .ok (.int x) ∧ 0 ≤ x ∧ x < m := ⟨_, mix_c hn c hp hm, mixI_lo hm, mixI_hi hm⟩
theorem cell_c {n : Nat} (hn : 1 ≤ n) (ns : List Int) (k : Nat) : callF GC XC M n 7 [intsD' ns, .int k] = .ok (.int (ns.getD k 0)) := by
  obtain ⟨m, rfl⟩ : ∃ m, n = m + 1 := ⟨n - 1, by omega⟩
  exact cell_ok m ns k
/-- a drawn name -/
def nameS (c : Int) : Str := ⟨(nameL c).toArray⟩
theorem name_is (c : Int) : isNameS (nameS c) = true := name_good c
theorem name_c {n : Nat} (hn : 2 ≤ n) (c : Int) : callF GC XC M n 9 [.int c] = .ok (.str (nameS c)) := by
  obtain ⟨m, rfl⟩ : ∃ m, n = m + 2 := ⟨n - 2, by omega⟩
  exact name_ok m c
theorem law_bounds {n : Nat} (hn : 2 ≤ n) (c : Int) {low high : Int} (h : low ≤ high) : ∃ lo hi, callF GC XC M n 25 [.int c, .int low, .int high] = .ok (.tuple [.int lo, optD hi]) ∧ low ≤ lo ∧ lo ≤ high ∧ (∀ x, hi = some x → lo ≤ x ∧ x ≤ high) := by
  obtain ⟨a, m1, l1, u1⟩ := mix_x (n := n - 1) (by omega) c 9941 (high - low + 1) (by omega) (by omega)
  obtain ⟨b, m2, l2, u2⟩ := mix_x (n := n - 1) (by omega) c 9931 (high - (low + a) + 1) (by omega) (by omega)
  have m3 := mix_c (n := n - 1) (by omega) c (p := 9929) (m := 4) (by omega) (by omega)
  by_cases z : mixI c 9929 4 = 0
  · refine ⟨low + a, none, C_eq (fn := f__law_bounds) (by omega) rfl rfl ?_, by omega, by omega, fun x hx => by cases hx⟩
    unfold f__law_bounds
    simp! only [m1, m2, m3, z]
    rfl
  · refine ⟨low + a, some (low + a + b), C_eq (fn := f__law_bounds) (by omega) rfl rfl ?_, by omega, by omega, fun x hx => by cases hx; omega⟩
    unfold f__law_bounds
    simp! only [m1, m2, m3, z]
    rfl
theorem s64 {k : Int} (h : small64 k = true) (a : Int) : mulD (.int k) (.int a) = some (.int (k * a)) := mul_k h a
theorem rng_c {i : Int} (h0 : 0 ≤ i) (h1 : i ≤ 1000) : rngOk 0 i = true := rngOk_small h0 h1
/-- drawn kinds -/
def KindAt (deep : Nat) : Prop := ∀ (c : Int) (n : Nat), 5 * deep + 5 ≤ n → ∃ k, callF GC XC M n 28 [.int c, .int deep] = .ok (kd k) ∧ Kok 3 k ∧ kdp k ≤ deep
theorem law_fields {deep : Nat} (ih : KindAt deep) {n : Nat} (hn : 5 * deep + 6 ≤ n) (c : Int) : ∃ fs : List Field, callF GC XC M n 26 [.int c, .int deep] = .ok (.tuple (fs.map fieldT)) ∧ Names (fs.map (·.1)) ∧ fs.length ≤ 3 ∧ ∀ f ∈ fs, Kok 3 f.2.1 ∧ kdp f.2.1 ≤ deep := by
  obtain ⟨a, m1, l1, u1⟩ := mix_x (n := n - 1) (by omega) c 9923 4 (by omega) (by omega)
  suffices h : W (callF GC XC M n 26 [.int c, .int deep]) (fun d => ∃ fs : List Field, d = .tuple (fs.map fieldT) ∧ Names (fs.map (·.1)) ∧ fs.length ≤ 3 ∧ ∀ f ∈ fs, Kok 3 f.2.1 ∧ kdp f.2.1 ≤ deep) by
    obtain ⟨d, e, fs, rfl, q⟩ := h
    exact ⟨fs, e, q⟩
  refine W_call (fn := f__law_fields) (by omega) rfl rfl ?_
  unfold f__law_fields
  simp! only [m1, rng_c l1 (show a ≤ 1000 by omega), rng0]
  refine W_for (i := fun k : Nat => PyData.int (k : Int)) (l := List.range a.toNat) (fun p ρ => ∃ (l : List (Str × Field)) (o1 o2 : Option Sl), ρ = [some (.dat (.int c)), some (.dat (.int deep)), some (.own (.dict (encJ fieldT l))), o1, o2] ∧ (l.map (·.1)).Nodup ∧ l.length ≤ p.length ∧ ∀ q ∈ l, q.2.1 = q.1 ∧ isNameS q.1 = true ∧ Kok 3 q.2.2.1 ∧ kdp q.2.2.1 ≤ deep) ⟨[], none, none, rfl, List.nodup_nil, Nat.le_refl _, fun q hq => by cases hq⟩ ?_ ?_
  · rintro p k q ρ hl ⟨l, o1, o2, rfl, nd, hlen, hq⟩
    obtain ⟨hk, hk2⟩ := range_split hl
    refine ⟨_, rfl, ?_⟩
    obtain ⟨kk, e1, e2, e3⟩ := ih (c + 13 * (k : Int) + 3) (n - 1) (by omega)
    obtain ⟨b, m2, l2, u2⟩ := mix_x (n := n - 1) (by omega) (c + (k : Int)) 9907 2 (by omega) (by omega)
    have nm := name_c (n := n - 1) (by omega) (c + 11 * (k : Int))
    have sz := encJ_size fieldT (l := l) (by omega)
    unfold bdF
    simp! only [mul_k (k := 11) (by decide), mul_k (k := 13) (by decide), nm, e1, m2, sz]
    refine ⟨putA l (nameS (c + 11 * (k : Int))) (nameS (c + 11 * (k : Int)), kk, decide (b = 0)), _, _, by rw [← put_encJ]; rfl, putA_nodup nd _ _, Nat.le_trans (putA_len _ _ _) (by simp; omega), fun q hq' => ?_⟩
    · rcases putA_mem hq' with h | rfl
      · exact hq q h.1
      · exact ⟨rfl, name_is _, e2, e3⟩
  · rintro ρ ⟨l, o1, o2, rfl, nd, hlen, hq⟩
    rw [List.length_range] at hlen
    simp! only [srt_encJ fieldT (show l.length < 64 by omega)]
    rw [lc_map (i := fun p : Str × Field => PyData.str p.1) (g := fun p => fieldT p.2)]
    · simp! only [W_ok]
      refine ⟨(sortA l).map (·.2), by rw [List.map_map]; rfl, ⟨?_, ?_⟩, ?_, ?_⟩
      · have : ((sortA l).map (·.2)).map (·.1) = (sortA l).map (·.1) := by
          rw [List.map_map]
          exact List.map_congr_left fun p hp => (hq p (sortA_mem hp).1).1
        rw [this]
        exact sortA_rise nd
      · intro x hx
        obtain ⟨f, hf, rfl⟩ := List.mem_map.mp hx
        obtain ⟨p, hp, rfl⟩ := List.mem_map.mp hf
        have := hq p (sortA_mem hp).1
        rw [this.1]
        exact this.2.1
      · rw [List.length_map, sortA_len]; omega
      · intro f hf
        obtain ⟨p, hp, rfl⟩ := List.mem_map.mp hf
        exact (hq p (sortA_mem hp).1).2.2
    · intro p hp
      unfold lcF
      simp! only [idx_encJ, (sortA_mem hp).2]
def wordAt : Nat → Str
  | 0 => "whole"
  | 1 => "text"
  | 2 => "truth"
  | 3 => "nothing"
  | 4 => "row"
  | _ => "record"
theorem law_part {deep : Nat} (ih : ∀ d, deep = d + 1 → KindAt d) {n : Nat} (hn : 5 * deep + 3 ≤ n) (c : Int) (k : Nat) (hk : k < 6) (hd : 4 ≤ k → 0 < deep) : ∃ p : Part, callF GC XC M n 27 [.int c, .str (wordAt k), .int deep] = .ok p.d ∧ Part.ok 3 p ∧ p.place = k ∧ p.dp ≤ deep := by
  have ways : k = 0 ∨ k = 1 ∨ k = 2 ∨ k = 3 ∨ k = 4 ∨ k = 5 := by omega
  rcases ways with rfl | rfl | rfl | rfl | rfl | rfl
  · obtain ⟨lo, hi, e, h1, h2, h3⟩ := law_bounds (n := n - 1) (by omega) c (low := -9) (high := 9) (by omega)
    obtain ⟨b, m2, l2, u2⟩ := mix_x (n := n - 1) (by omega) c 9901 4 (by omega) (by omega)
    by_cases z : b = 0
    · refine ⟨.whole none hi, C_eq (fn := f__law_part) (by omega) rfl rfl ?_, .whole (by cases hi with
      | none => trivial
      | some x => exact smI_of (by have := h3 _ rfl; omega)) (fun _ x hx => (h3 x hx).2), rfl, by rw [Part.dp]; omega⟩
      unfold f__law_part wordAt Part.d
      simp! only [e, m2, z, optD]
    · refine ⟨.whole (some lo) hi, C_eq (fn := f__law_part) (by omega) rfl rfl ?_, .whole (by cases hi with
      | none => exact smI_of (by omega)
      | some x => exact ⟨(h3 _ rfl).1, smI_of (by omega), smI_of (by have := h3 _ rfl; omega)⟩) (fun _ x hx => (h3 x hx).2), rfl, by rw [Part.dp]; omega⟩
      unfold f__law_part wordAt Part.d
      simp! only [e, m2, z, optD]
  · obtain ⟨lo, hi, e, h1, h2, h3⟩ := law_bounds (n := n - 1) (by omega) c (low := 0) (high := 4) (by omega)
    refine ⟨.text lo hi, C_eq (fn := f__law_part) (by omega) rfl rfl ?_, .text (by cases hi <;> first | (have := h3 _ rfl; exact ⟨by omega, by omega, by omega⟩) | exact ⟨by omega, by omega⟩), rfl, by rw [Part.dp]; omega⟩
    unfold f__law_part wordAt Part.d
    simp! only [e]
  · obtain ⟨b, m2, l2, u2⟩ := mix_x (n := n - 1) (by omega) c 9887 3 (by omega) (by omega)
    obtain ⟨t, ht⟩ : ∃ t, L2.atI [PyData.none, .bool true, .bool false] b = some (optB t) := by
      have : b = 0 ∨ b = 1 ∨ b = 2 := by omega
      rcases this with rfl | rfl | rfl
      · exact ⟨none, rfl⟩
      · exact ⟨some true, rfl⟩
      · exact ⟨some false, rfl⟩
    refine ⟨.truth t, C_eq (fn := f__law_part) (by omega) rfl rfl ?_, .truth t, rfl, by rw [Part.dp]; omega⟩
    unfold f__law_part wordAt Part.d
    simp! only [m2, ht]
  · refine ⟨.nothing, C_eq (fn := f__law_part) (by omega) rfl rfl ?_, .nothing, rfl, by rw [Part.dp]; omega⟩
    unfold f__law_part wordAt Part.d
    simp! only [W_ok]
  · obtain ⟨d, rfl⟩ : ∃ d, deep = d + 1 := ⟨deep - 1, by have := hd (by omega); omega⟩
    obtain ⟨kk, e1, e2, e3⟩ := ih d rfl (c + 5) (n - 1) (by omega)
    obtain ⟨lo, hi, e, h1, h2, h3⟩ := law_bounds (n := n - 1) (by omega) c (low := 0) (high := 3) (by omega)
    have hm1 : ((d + 1 : Nat) : Int) - 1 = (d : Nat) := by omega
    refine ⟨.row kk lo hi, C_eq (fn := f__law_part) (by omega) rfl rfl ?_, .row (by cases hi <;> first | (have := h3 _ rfl; exact ⟨by omega, by omega, by omega⟩) | exact ⟨by omega, by omega⟩) e2.ord e2.parts, rfl, by rw [pdp_row]; omega⟩
    unfold f__law_part wordAt
    rw [pd_row]
    simp! only [e, hm1, e1]
  · obtain ⟨d, rfl⟩ : ∃ d, deep = d + 1 := ⟨deep - 1, by have := hd (by omega); omega⟩
    obtain ⟨fs, e1, e2, e3, e4⟩ := law_fields (ih d rfl) (n := n - 1) (by omega) (c + 7)
    obtain ⟨b, m2, l2, u2⟩ := mix_x (n := n - 1) (by omega) c 9883 2 (by omega) (by omega)
    have hm1 : ((d + 1 : Nat) : Int) - 1 = (d : Nat) := by omega
    refine ⟨.record fs (decide (b = 0)), C_eq (fn := f__law_part) (by omega) rfl rfl ?_, .record e2 e3 (fun f hf => (e4 f hf).1.ord) (fun f hf => (e4 f hf).1.parts), rfl, ?_⟩
    · unfold f__law_part wordAt
      rw [pd_rec]
      simp! only [hm1, e1, m2]
    · rw [pdp_rec]
      have : maxN (fs.map fun f => kdp f.2.1) ≤ d := maxN_le fun m hm => by
        obtain ⟨f, hf, rfl⟩ := List.mem_map.mp hm
        exact (e4 f hf).2
      omega
def sortsT (m : Nat) : List D := (List.range m).map fun k => .str (wordAt k)
theorem sorts_enum (m : Nat) : enumD 0 (sortsT m) = (List.range m).map fun k : Nat => .tuple [.int (k : Int), .str (wordAt k)] := by
  unfold sortsT
  rw [enum_map, List.zipIdx_eq_zip_range', ← List.range_eq_range', List.length_range]
  rw [List.zip_eq_zipWith, List.map_zipWith, List.zipWith_self]
theorem law_kind_of {deep : Nat} (ih : ∀ d, deep = d + 1 → KindAt d) (m : Nat) (hm : m ≤ 6) (hd : 4 < m → 0 < deep) (cut : slcD (.tuple [PyData.str "whole", .str "text", .str "truth", .str "nothing", .str "row", .str "record"]) none (some (4 + 2 * (if 0 < deep then 1 else 0 : Int))) = some (.tuple (sortsT m))) : KindAt deep := by
  intro c n hn
  suffices h : W (callF GC XC M n 28 [.int c, .int deep]) (fun d => ∃ k, d = kd k ∧ Kok 3 k ∧ kdp k ≤ deep) by
    obtain ⟨d, e, k, rfl, q⟩ := h
    exact ⟨k, e, q⟩
  refine W_call (fn := f__law_kind) (by omega) rfl rfl ?_
  unfold f__law_kind
  have hd0 : (0 < (deep : Int)) = (0 < deep) := by simp
  simp! only [mul_k (k := 2) (by decide), hd0, cut, sorts_enum]
  refine W_for (i := fun k : Nat => PyData.tuple [.int (k : Int), .str (wordAt k)]) (l := List.range m) (fun p ρ => ∃ (l : List Part) (o1 o2 : Option Sl), ρ = [some (.dat (.int c)), some (.dat (.int deep)), some (.dat (.tuple (sortsT m))), some (.own (.list (l.map Part.d))), o1, o2] ∧ l.length ≤ p.length ∧ Ordd l ∧ ∀ q ∈ l, Part.ok 3 q ∧ q.dp ≤ deep ∧ q.place < p.length) ⟨[], none, none, rfl, Nat.le_refl _, List.Pairwise.nil, fun q hq => by cases hq⟩ ?_ ?_
  · rintro p k q ρ hl ⟨l, o1, o2, rfl, hlen, hor, hq⟩
    obtain ⟨hk, hk2⟩ := range_split hl
    refine ⟨_, rfl, ?_⟩
    obtain ⟨b, m2, l2, u2⟩ := mix_x (n := n - 1) (by omega) (c * (2 * (k : Int) + 3) + 17 * (k : Int)) 9871 5 (by omega) (by omega)
    have sm : small64 (2 * (k : Int) + 3) = true := by unfold small64; simp; omega
    obtain ⟨p', e1, e2, e3, e4⟩ := law_part ih (n := n - 1) (by omega) (c + 19 * (k : Int)) k (by omega) (fun _ => hd (by omega))
    have sz : (l.map Part.d).length < sizeLine := by rw [List.length_map]; exact Nat.lt_of_le_of_lt (show l.length ≤ 1000 by omega) (by decide)
    unfold bdF
    by_cases z : b < 2
    · simp! only [mul_k (k := 2) (by decide), mul_k (k := 17) (by decide), mul_k (k := 19) (by decide), mul_r sm, m2, z, e1, sz]
      refine ⟨l ++ [p'], _, _, by rw [List.map_append]; rfl, by simp; omega, ?_, fun q hq' => ?_⟩
      · refine List.pairwise_append.mpr ⟨hor, List.pairwise_singleton .., fun x hx y hy => ?_⟩
        have : y = p' := by simpa using hy
        subst this
        have := (hq x hx).2.2
        omega
      · rw [List.length_append, List.length_singleton]
        rcases List.mem_append.mp hq' with h | h
        · have := hq q h
          exact ⟨this.1, this.2.1, by omega⟩
        · have : q = p' := by simpa using h
          subst this
          exact ⟨e2, e4, by omega⟩
    · simp! only [mul_k (k := 2) (by decide), mul_k (k := 17) (by decide), mul_k (k := 19) (by decide), mul_r sm, m2, z]
      exact ⟨l, _, _, rfl, by simp; omega, hor, fun q hq' => by have := hq q hq'; exact ⟨this.1, this.2.1, by simp; omega⟩⟩
  · rintro ρ ⟨l, o1, o2, rfl, hlen, hor, hq⟩
    simp! only [W_ok]
    exact ⟨l, rfl, ⟨hor, fun q hq' => (hq q hq').1⟩, kdp_le fun q hq' => (hq q hq').2.1⟩
theorem law_kind : ∀ deep : Nat, KindAt deep := by
  intro deep
  induction deep with
  | zero => exact law_kind_of (fun d hd => by omega) 4 (by omega) (fun h => by omega) (by kernel_rfl)
  | succ d ih => exact law_kind_of (fun d' hd => by cases hd; exact ih) 6 (by omega) (fun h => by omega) (by rw [if_pos (Nat.succ_pos d)]; kernel_rfl)
end G7

namespace G7
open PySem
local macro_rules | `(tactic| dsimp! only [$xs,*]) => `(tactic| simp only [e_var, e_glob, e_kI, e_kS, e_kB, e_kN, e_tp, e_ls, e_dn, e_op, e_ng, e_cmp, e_chn, e_an, e_orr, e_on, e_nt, e_it, e_ix, e_sl, e_cl, e_bt, e_is, e_lcm, x_nil, x_cons, sq_n, sq_r, sq_c, sq_b, x_asg, x_asgT, x_ret, x_retN, x_if, x_for, x_whl, x_app, x_ext, x_dput, x_pass, x_cont, x_brk, evalA, evalAB, evalC, evalI, bnd, bor, view, read, Env.at, Env.put, b_ok, b_bad, b_exc, b_ite, of_some, of_none, om_some, om_none, ob_some, calm_k, tr_b, tr_n, tr_i, tr_l, tr_t, fl_ret, fl_next, fl_ite, len_s, len_l, len_t, tup_l, int_b, initE, List.map_cons, List.map_nil, List.length_cons, List.length_nil, List.cons_append, List.nil_append, List.replicate, frzE, esc, escA, escB, escAB, escI, escC, op2, add_i, sub_i, cmpD, lt_i, lt_s, is_n, is_b, eq_s, eq_i, tup_at, lst_at, str_at, Sl.d, fresh, isCont, Bool.false_and, Bool.and_false, Bool.true_and, Bool.and_true, if_true, if_false, ite_true, ite_false, Nat.reduceAdd, Nat.reduceSub, bindT, bindT.bindTs, wipeE, Tg.slots, List.any_cons, List.any_nil, isTy, escJ, Bool.or_false, Bool.false_or, Bool.or_true, Bool.true_or, Bool.not_true, Bool.not_false, Bool.false_eq_true, seqD, decide_true, decide_false, nc_lit, eq_self, Int.reduceEq, Nat.reduceEqDiff, and_self, and_true, true_and, $xs,*])
local macro_rules | `(tactic| simp! only [$xs,*]) => `(tactic| simp -implicitDefEqProofs only [e_var, e_glob, e_kI, e_kS, e_kB, e_kN, e_tp, e_ls, e_dn, e_op, e_ng, e_cmp, e_chn, e_an, e_orr, e_on, e_nt, e_it, e_ix, e_sl, e_cl, e_bt, e_is, e_lcm, x_nil, x_cons, sq_n, sq_r, sq_c, sq_b, x_asg, x_asgT, x_ret, x_retN, x_if, x_for, x_whl, x_app, x_ext, x_dput, x_pass, x_cont, x_brk, evalA, evalAB, evalC, evalI, b_ok, b_bad, b_exc, b_ite, of_some, of_none, om_some, om_none, ob_some, calm_k, tr_b, tr_n, tr_i, tr_l, tr_t, fl_ret, fl_next, fl_ite, len_s, len_l, len_t, tup_l, int_b, initE, List.map_cons, List.map_nil, List.length_cons, List.length_nil, List.cons_append, List.nil_append, List.replicate, esc, escA, escB, escAB, escI, escC, op2, add_i, sub_i, cmpD, lt_i, lt_s, is_n, is_b, eq_s, eq_i, tup_at, lst_at, str_at, Sl.d, fresh, isCont, Bool.false_and, Bool.and_false, Bool.true_and, Bool.and_true, if_true, if_false, ite_true, ite_false, Nat.reduceAdd, Nat.reduceSub, Tg.slots, List.any_cons, List.any_nil, isTy, escJ, Bool.or_false, Bool.false_or, Bool.or_true, Bool.true_or, Bool.not_true, Bool.not_false, Bool.false_eq_true, decide_true, decide_false, nc_lit, eq_self, Int.reduceEq, Nat.reduceEqDiff, and_self, and_true, true_and, ofS_inj, String.reduceEq, W_ok, W_ite, b_assoc, bk_r, bk_n, tn_n, tn_c, tn_b, tn_r, decide_eq_true_eq, Bool.not_eq_true', decide_eq_false_iff_not, Nat.add_sub_cancel, List.append_nil, List.not_mem_nil, not_true_eq_false, not_false_eq_true, ownK, ownL, dKey, Bool.true_eq_false, List.mem_cons, or_self, or_false, false_or, List.filter_cons, List.filter_nil, List.contains_cons, List.contains_nil, Nat.reduceBEq, Nat.reduceLeDiff, Int.reduceLT, Int.reduceLE, Int.reduceNeg, Nat.zero_add, bor_var, bnd_kN, bndI, view_s, view_d, view_o, view_l, read_s, read_d, read_o, at_s, at_0, put_s, put_0, frz_nil, frz_cons, frz1_s, frz1_o, frz1_d, frz1_l, frz1_n, bt_nm, bt_tp, bts_nil, bts_cons, wipe_nil, wipe_cons, seq_l, seq_t, seq_s, bq_tt, bq_tf, bq_ft, bq_ff, ad_t, ad_l, ai0, ai1, ai2, ai3, ng_i, int_i, mx_i, mn_i, bor_glob, bor_kI, bor_kS, bor_kB, bor_kN, bor_nil, bor_cons, bor_tup, bor_lst, bor_dnew, bor_dct1, bor_op, bor_neg, bor_cmp, bor_chain, bor_and, bor_or, bor_one, bor_not, bor_ite, bor_idx, bor_slc, bor_call, bor_bt, bor_isi, bor_lc, bnd_glob, bnd_kI, bnd_kS, bnd_kB, bnd_nil, bnd_cons, bnd_tup, bnd_lst, bnd_dnew, bnd_dct1, bnd_op, bnd_neg, bnd_cmp, bnd_chain, bnd_and, bnd_or, bnd_one, bnd_not, bnd_ite, bnd_idx, bnd_slc, bnd_call, bnd_bt, bnd_isi, bnd_lc, bnd_var, $xs,*])
/-! ### when a value is of a kind -/
def Val.place : Val → Nat
  | .whole _ => 0
  | .text _ => 1
  | .truth _ => 2
  | .nothing => 3
  | .row _ => 4
  | .record _ => 5
def findP (k : Kind) (pl : Nat) : Option Part := k.find? fun p => decide (p.place = pl)
def btw (i : Int) (lo hi : Option Int) : Bool := (match lo with
  | some a => decide (a ≤ i)
  | none => true) && (match hi with
  | some b => decide (i ≤ b)
  | none => true)
def trOk (b : Bool) : Option Bool → Bool
  | none => true
  | some c => b == c
def Val.fits : Val → Part → Bool
  | .whole i, .whole lo hi => btw i lo hi
  | .text s, .text lo hi => btw s.length (some lo) hi
  | .truth b, .truth t => trOk b t
  | .nothing, .nothing => true
  | .row vs, .row k lo hi => btw vs.length (some lo) hi && (vs.map fun v => (match findP k v.place with
    | some p => v.fits p
    | none => false)).all id
  | .record ps, .record fs op => (fs.all fun f => !f.2.2 || decide (f.1 ∈ ps.map (·.1))) && (ps.map fun p => (match getA fs p.1 with
    | some f => (match findP f.1 p.2.place with
      | some q => p.2.fits q
      | none => false)
    | none => op)).all id
  | _, _ => false
termination_by v => sizeOf v
decreasing_by
  all_goals simp_wf
  · have := List.sizeOf_lt_of_mem ‹_›; omega
  · have := snd_size ‹_›; omega
def isOf (v : Val) (k : Kind) : Bool := match findP k v.place with
  | some p => v.fits p
  | none => false
theorem fits_row (vs : List Val) (k : Kind) (lo : Int) (hi : Option Int) : (Val.row vs).fits (.row k lo hi) = (btw vs.length (some lo) hi && vs.all fun v => isOf v k) := by
  rw [Val.fits, List.all_map]
  rfl
theorem fits_rec (ps : List (Str × Val)) (fs : List Field) (op : Bool) : (Val.record ps).fits (.record fs op) = ((fs.all fun f => !f.2.2 || decide (f.1 ∈ ps.map (·.1))) && ps.all fun p => (match getA fs p.1 with
    | some f => isOf p.2 f.1
    | none => op)) := by
  rw [Val.fits, List.all_map]
  rfl
theorem findP_some {k : Kind} {pl : Nat} {p : Part} (h : findP k pl = some p) : p ∈ k ∧ p.place = pl := by
  unfold findP at h
  exact ⟨List.mem_of_find?_eq_some h, by simpa using List.find?_some h⟩
theorem findP_mem {k : Kind} (ho : Ordd k) {p : Part} (h : p ∈ k) : findP k p.place = some p := by
  unfold findP
  induction k with
  | nil => cases h
  | cons q k ih =>
    rcases List.mem_cons.mp h with rfl | h
    · simp
    · have := (List.pairwise_cons.mp ho).1 p h
      rw [List.find?_cons_of_neg (by simp; omega)]
      exact ih (List.pairwise_cons.mp ho).2 h
theorem findP_none {k : Kind} {pl : Nat} (h : findP k pl = none) : ∀ p ∈ k, p.place ≠ pl := fun p hp e => by
  have := List.find?_eq_none.mp h p hp
  simp [e] at this
/-! ### what is wrong with a value -/
abbrev Path := List L2.Key
abbrev Fault := Path × Str
def pathD (p : Path) : D := .tuple (p.map keyD)
def faultT (f : Fault) : D := .tuple [pathD f.1, .str f.2]
/-- a value's own bounds -/
def ownB : Val → Part → Bool
  | .whole i, .whole lo hi => btw i lo hi
  | .text s, .text lo hi => btw s.length (some lo) hi
  | .truth b, .truth t => trOk b t
  | .row vs, .row _ lo hi => btw vs.length (some lo) hi
  | _, _ => true
def faultsIn : Nat → Kind → Val → Path → List Fault
  | 0, _, _, _ => []
  | d + 1, k, v, path => match findP k v.place with
    | none => [(path, "sort")]
    | some p => (if ownB v p = true then [] else [(path, "bounds")] : List Fault) ++ (match v, p with
      | .row vs, .row k' _ _ => vs.zipIdx.flatMap fun (q : Val × Nat) => faultsIn d k' q.1 (path ++ [Sum.inl (q.2 : Int)])
      | .record ps, .record fs op => (namesOf (fs.map (·.1) ++ ps.map (·.1))).flatMap fun (n : Str) => (match getA fs n, getA ps n with
        | none, _ => if op = true then [] else [(path ++ [Sum.inr n], "strange")]
        | some f, some v' => faultsIn d f.1 v' (path ++ [Sum.inr n])
        | some f, none => if f.2 = true then [(path ++ [Sum.inr n], "lacks")] else [] : List Fault)
      | _, _ => [] : List Fault)
theorem flat_nil {α β : Type} {f : α → List β} {l : List α} : l.flatMap f = [] ↔ ∀ x ∈ l, f x = [] := List.flatMap_eq_nil_iff
/-- no faults just if it is of the kind -/
theorem faults_nil : ∀ (d : Nat) (k : Kind) (v : Val) (path : Path) (w : Nat), v.dp < d → Kok w k → Val.ok w v → (faultsIn d k v path = [] ↔ isOf v k = true) := by
  intro d
  induction d with
  | zero => intro k v path w h; omega
  | succ d ih =>
    intro k v path w hd hk hv
    unfold faultsIn isOf
    cases hf : findP k v.place with
    | none => simp
    | some p =>
      obtain ⟨hpk, hpl⟩ := findP_some hf
      have hpo := hk.parts p hpk
      have own : ((if ownB v p = true then [] else [(path, ("bounds" : Str))]) = ([] : List Fault)) ↔ ownB v p = true := by
        split
        · rename_i h; simp [h]
        · rename_i h; simp [h]
      simp only [List.append_eq_nil_iff, own]
      cases v with
      | whole i => cases p <;> first | (cases hpl; done) | (rw [Val.fits]; simp [ownB])
      | text i => cases p <;> first | (cases hpl; done) | (rw [Val.fits]; simp [ownB])
      | truth i => cases p <;> first | (cases hpl; done) | (rw [Val.fits]; simp [ownB])
      | nothing => cases p <;> first | (cases hpl; done) | (rw [Val.fits]; simp [ownB])
      | row vs =>
        cases p with
        | row k' lo hi =>
          obtain ⟨hk', _⟩ := Kok.row hpo
          cases hv with
          | row hl hvs =>
            rw [fits_row, Bool.and_eq_true, List.all_eq_true, flat_nil]
            refine and_congr Iff.rfl ⟨fun h v hv => ?_, fun h q hq => ?_⟩
            · obtain ⟨i, hi, e⟩ := List.mem_iff_getElem.mp hv
              have := h (v, i) (List.mem_zipIdx_iff_getElem?.mpr (by rw [List.getElem?_eq_getElem hi, e]))
              exact (ih k' v _ w (by have := vdp_row_mem hv; omega) hk' (hvs v hv)).mp this
            · have hm : q.1 ∈ vs := List.mem_of_getElem? (List.mem_zipIdx_iff_getElem?.mp hq)
              exact (ih k' q.1 _ w (by have := vdp_row_mem hm; omega) hk' (hvs _ hm)).mpr (h q.1 hm)
        | _ => cases hpl
      | record ps =>
        cases p with
        | record fs op =>
          obtain ⟨hn, hfl, hkf⟩ := Kok.field hpo
          cases hv with
          | record hpn hl hvs =>
            have ndp := hpn.1.nodup
            have ndf := hn.1.nodup
            rw [fits_rec, Bool.and_eq_true, List.all_eq_true, List.all_eq_true, flat_nil]
            simp only [ownB, true_and]
            constructor
            · intro h
              refine ⟨fun f hf => ?_, fun p hp => ?_⟩
              · have := h f.1 (nm_mem.mpr (List.mem_append_left _ (List.mem_map.mpr ⟨f, hf, rfl⟩)))
                rw [getA_mem ndf hf] at this
                cases hg : getA ps f.1 with
                | none =>
                  rw [hg] at this
                  cases hm : f.2.2 with
                  | false => simp
                  | true => simp [hm] at this
                | some v' =>
                  have := getA_some hg
                  have hm : f.1 ∈ ps.map (·.1) := List.mem_map.mpr ⟨_, this, rfl⟩
                  simp [hm]
              · have hnm : p.1 ∈ namesOf (fs.map (·.1) ++ ps.map (·.1)) := nm_mem.mpr (List.mem_append_right _ (List.mem_map.mpr ⟨p, hp, rfl⟩))
                have := h p.1 hnm
                rw [getA_mem ndp hp] at this
                cases hg : getA fs p.1 with
                | none =>
                  rw [hg] at this
                  cases op with
                  | true => rfl
                  | false => simp at this
                | some f =>
                  rw [hg] at this
                  have hf := getA_some hg
                  exact (ih f.1 p.2 _ w (by have := vdp_rec_mem hp; omega) (hkf _ hf) (hvs p hp)).mp this
            · rintro ⟨h1, h2⟩ n hn'
              cases hg : getA fs n with
              | none =>
                cases hg2 : getA ps n with
                | none =>
                  rcases List.mem_append.mp (nm_mem.mp hn') with z | z
                  · exact absurd z (getA_none.mp hg)
                  · exact absurd z (getA_none.mp hg2)
                | some v' =>
                  have := h2 _ (getA_some hg2)
                  simp only [hg] at this
                  simp [this]
              | some f =>
                have hf := getA_some hg
                cases hg2 : getA ps n with
                | none =>
                  have := h1 _ hf
                  simp only [getA_none.mp hg2, decide_false, Bool.or_false, Bool.not_eq_true'] at this
                  simp [this]
                | some v' =>
                  have hp := getA_some hg2
                  have := h2 _ hp
                  simp only [hg] at this
                  exact (ih f.1 v' _ w (by have := vdp_rec_mem hp; simp only at this; omega) (hkf _ hf) (hvs _ hp)).mpr this
        | _ => cases hpl
/-! ### how many -/
def bnd1 (w : Nat) : Nat → Nat
  | 0 => 1
  | n + 1 => 1 + 2 * w * bnd1 w n
theorem bnd1_pos (w n : Nat) : 1 ≤ bnd1 w n := by cases n <;> (unfold bnd1; omega)
theorem bnd1_mono {w m n : Nat} (h : m ≤ n) : bnd1 w m ≤ bnd1 w (n + 1) ∧ bnd1 w m ≤ bnd1 w n ∨ w = 0 := by
  by_cases hw : w = 0
  · exact .inr hw
  · left
    have step : ∀ n, bnd1 w n ≤ bnd1 w (n + 1) := fun n => by
      show bnd1 w n ≤ 1 + 2 * w * bnd1 w n
      have : bnd1 w n ≤ 2 * w * bnd1 w n := Nat.le_mul_of_pos_left _ (by omega)
      omega
    have key : ∀ k, bnd1 w m ≤ bnd1 w (m + k) := fun k => by
      induction k with
      | zero => exact Nat.le_refl _
      | succ k ih => exact Nat.le_trans ih (step _)
    obtain ⟨k, rfl⟩ : ∃ k, n = m + k := ⟨n - m, by omega⟩
    exact ⟨Nat.le_trans (key k) (step _), key k⟩
theorem flat_len {α β : Type} {f : α → List β} {B : Nat} : ∀ {l : List α}, (∀ x ∈ l, (f x).length ≤ B) → (l.flatMap f).length ≤ l.length * B
  | [], _ => by simp
  | x :: l, h => by
    rw [List.flatMap_cons, List.length_append, List.length_cons, Nat.succ_mul]
    have := h x List.mem_cons_self
    have := flat_len (l := l) fun y hy => h y (List.mem_cons_of_mem _ hy)
    omega
theorem faults_len : ∀ (d : Nat) (k : Kind) (v : Val) (path : Path) (w : Nat), 1 ≤ w → Kok w k → Val.ok w v → ∀ m, kdp k ≤ m → (faultsIn d k v path).length ≤ bnd1 w m := by
  intro d
  induction d with
  | zero => intro k v path w _ _ _ m _; unfold faultsIn; simp
  | succ d ih =>
    intro k v path w hw hk hv m hm
    have hp1 := bnd1_pos w m
    unfold faultsIn
    cases hf : findP k v.place with
    | none => simpa using hp1
    | some p =>
      obtain ⟨hpk, hpl⟩ := findP_some hf
      have hpo := hk.parts p hpk
      have hpd := kdp_mem hpk
      have own : (if ownB v p = true then [] else [(path, ("bounds" : Str))] : List Fault).length ≤ 1 := by split <;> simp
      simp only [List.length_append]
      cases v with
      | row vs =>
        cases p with
        | row k' lo hi =>
          obtain ⟨hk', _⟩ := Kok.row hpo
          rw [pdp_row] at hpd
          cases hv with
          | row hl hvs =>
            obtain ⟨m, rfl⟩ : ∃ e, m = e + 1 := ⟨m - 1, by omega⟩
            have := flat_len (B := bnd1 w m) (l := vs.zipIdx) (f := fun q => faultsIn d k' q.1 (path ++ [Sum.inl (q.2 : Int)])) fun q hq => by
              have hmem : q.1 ∈ vs := List.mem_of_getElem? (List.mem_zipIdx_iff_getElem?.mp hq)
              exact ih k' q.1 _ w hw hk' (hvs _ hmem) m (by omega)
            rw [List.length_zipIdx] at this
            have h2 : vs.length * bnd1 w m ≤ 2 * w * bnd1 w m := Nat.mul_le_mul_right _ (by omega)
            refine Nat.le_trans (Nat.add_le_add own this) ?_
            show _ ≤ 1 + 2 * w * bnd1 w m
            omega
        | _ => cases hpl
      | record ps =>
        cases p with
        | record fs op =>
          obtain ⟨hn, hfl, hkf⟩ := Kok.field hpo
          cases hv with
          | record hpn hl hvs =>
            obtain ⟨m, rfl⟩ : ∃ e, m = e + 1 := ⟨m - 1, by rw [pdp_rec] at hpd; omega⟩
            have pos := bnd1_pos w m
            have := flat_len (B := bnd1 w m) (l := namesOf (fs.map (·.1) ++ ps.map (·.1))) (f := fun n => (match getA fs n, getA ps n with
              | none, _ => if op = true then [] else [(path ++ [Sum.inr n], "strange")]
              | some f, some v' => faultsIn d f.1 v' (path ++ [Sum.inr n])
              | some f, none => if f.2 = true then [(path ++ [Sum.inr n], "lacks")] else [] : List Fault)) fun n hn => by
              cases hg : getA fs n with
              | none => simp only []; split <;> simp <;> omega
              | some f =>
                cases hg2 : getA ps n with
                | none => simp only []; split <;> simp <;> omega
                | some v' =>
                  have hp := getA_some hg2
                  have hf2 := getA_some hg
                  exact ih f.1 v' _ w hw (hkf _ hf2) (hvs _ hp) m (by have := pdp_field (op := op) hf2; simp only at this; omega)
            have h1 := nm_len (fs.map (·.1) ++ ps.map (·.1))
            rw [List.length_append, List.length_map, List.length_map] at h1
            have h2 : (namesOf (fs.map (·.1) ++ ps.map (·.1))).length * bnd1 w m ≤ 2 * w * bnd1 w m := Nat.mul_le_mul_right _ (by omega)
            refine Nat.le_trans (Nat.add_le_add own this) ?_
            show _ ≤ 1 + 2 * w * bnd1 w m
            omega
        | _ => cases hpl
      | _ => cases p <;> simp only [List.length_nil] <;> omega
end G7

namespace G7
open PySem
local macro_rules | `(tactic| dsimp! only [$xs,*]) => `(tactic| simp only [e_var, e_glob, e_kI, e_kS, e_kB, e_kN, e_tp, e_ls, e_dn, e_op, e_ng, e_cmp, e_chn, e_an, e_orr, e_on, e_nt, e_it, e_ix, e_sl, e_cl, e_bt, e_is, e_lcm, x_nil, x_cons, sq_n, sq_r, sq_c, sq_b, x_asg, x_asgT, x_ret, x_retN, x_if, x_for, x_whl, x_app, x_ext, x_dput, x_pass, x_cont, x_brk, evalA, evalAB, evalC, evalI, bnd, bor, view, read, Env.at, Env.put, b_ok, b_bad, b_exc, b_ite, of_some, of_none, om_some, om_none, ob_some, calm_k, tr_b, tr_n, tr_i, tr_l, tr_t, fl_ret, fl_next, fl_ite, len_s, len_l, len_t, tup_l, int_b, initE, List.map_cons, List.map_nil, List.length_cons, List.length_nil, List.cons_append, List.nil_append, List.replicate, frzE, esc, escA, escB, escAB, escI, escC, op2, add_i, sub_i, cmpD, lt_i, lt_s, is_n, is_b, eq_s, eq_i, tup_at, lst_at, str_at, Sl.d, fresh, isCont, Bool.false_and, Bool.and_false, Bool.true_and, Bool.and_true, if_true, if_false, ite_true, ite_false, Nat.reduceAdd, Nat.reduceSub, bindT, bindT.bindTs, wipeE, Tg.slots, List.any_cons, List.any_nil, isTy, escJ, Bool.or_false, Bool.false_or, Bool.or_true, Bool.true_or, Bool.not_true, Bool.not_false, Bool.false_eq_true, seqD, decide_true, decide_false, nc_lit, eq_self, Int.reduceEq, Nat.reduceEqDiff, and_self, and_true, true_and, $xs,*])
local macro_rules | `(tactic| simp! only [$xs,*]) => `(tactic| simp -implicitDefEqProofs only [e_var, e_glob, e_kI, e_kS, e_kB, e_kN, e_tp, e_ls, e_dn, e_op, e_ng, e_cmp, e_chn, e_an, e_orr, e_on, e_nt, e_it, e_ix, e_sl, e_cl, e_bt, e_is, e_lcm, x_nil, x_cons, sq_n, sq_r, sq_c, sq_b, x_asg, x_asgT, x_ret, x_retN, x_if, x_for, x_whl, x_app, x_ext, x_dput, x_pass, x_cont, x_brk, evalA, evalAB, evalC, evalI, b_ok, b_bad, b_exc, b_ite, of_some, of_none, om_some, om_none, ob_some, calm_k, tr_b, tr_n, tr_i, tr_l, tr_t, fl_ret, fl_next, fl_ite, len_s, len_l, len_t, tup_l, int_b, initE, List.map_cons, List.map_nil, List.length_cons, List.length_nil, List.cons_append, List.nil_append, List.replicate, esc, escA, escB, escAB, escI, escC, op2, add_i, sub_i, cmpD, lt_i, lt_s, is_n, is_b, eq_s, eq_i, tup_at, lst_at, str_at, Sl.d, fresh, isCont, Bool.false_and, Bool.and_false, Bool.true_and, Bool.and_true, if_true, if_false, ite_true, ite_false, Nat.reduceAdd, Nat.reduceSub, Tg.slots, List.any_cons, List.any_nil, isTy, escJ, Bool.or_false, Bool.false_or, Bool.or_true, Bool.true_or, Bool.not_true, Bool.not_false, Bool.false_eq_true, decide_true, decide_false, nc_lit, eq_self, Int.reduceEq, Nat.reduceEqDiff, and_self, and_true, true_and, ofS_inj, String.reduceEq, W_ok, W_ite, b_assoc, bk_r, bk_n, tn_n, tn_c, tn_b, tn_r, decide_eq_true_eq, Bool.not_eq_true', decide_eq_false_iff_not, Nat.add_sub_cancel, List.append_nil, List.not_mem_nil, not_true_eq_false, not_false_eq_true, ownK, ownL, dKey, Bool.true_eq_false, List.mem_cons, or_self, or_false, false_or, List.filter_cons, List.filter_nil, List.contains_cons, List.contains_nil, Nat.reduceBEq, Nat.reduceLeDiff, Int.reduceLT, Int.reduceLE, Int.reduceNeg, Nat.zero_add, bor_var, bnd_kN, bndI, view_s, view_d, view_o, view_l, read_s, read_d, read_o, at_s, at_0, put_s, put_0, frz_nil, frz_cons, frz1_s, frz1_o, frz1_d, frz1_l, frz1_n, bt_nm, bt_tp, bts_nil, bts_cons, wipe_nil, wipe_cons, seq_l, seq_t, seq_s, bq_tt, bq_tf, bq_ft, bq_ff, ad_t, ad_l, ai0, ai1, ai2, ai3, ng_i, int_i, mx_i, mn_i, bor_glob, bor_kI, bor_kS, bor_kB, bor_kN, bor_nil, bor_cons, bor_tup, bor_lst, bor_dnew, bor_dct1, bor_op, bor_neg, bor_cmp, bor_chain, bor_and, bor_or, bor_one, bor_not, bor_ite, bor_idx, bor_slc, bor_call, bor_bt, bor_isi, bor_lc, bnd_glob, bnd_kI, bnd_kS, bnd_kB, bnd_nil, bnd_cons, bnd_tup, bnd_lst, bnd_dnew, bnd_dct1, bnd_op, bnd_neg, bnd_cmp, bnd_chain, bnd_and, bnd_or, bnd_one, bnd_not, bnd_ite, bnd_idx, bnd_slc, bnd_call, bnd_bt, bnd_isi, bnd_lc, bnd_var, $xs,*])
/-! ### the program's defs for this -/
def Val.word (v : Val) : Str := wordAt v.place
theorem word_part (p : Part) : p.word = wordAt p.place := by cases p <;> rfl
theorem wordAt_inj {i j : Nat} (hi : i ≤ 5) (hj : j ≤ 5) : (wordAt i = wordAt j) = (i = j) := by
  apply propext
  constructor
  · intro h
    have a : i = 0 ∨ i = 1 ∨ i = 2 ∨ i = 3 ∨ i = 4 ∨ i = 5 := by omega
    have b : j = 0 ∨ j = 1 ∨ j = 2 ∨ j = 3 ∨ j = 4 ∨ j = 5 := by omega
    rcases a with rfl | rfl | rfl | rfl | rfl | rfl <;> rcases b with rfl | rfl | rfl | rfl | rfl | rfl <;> first | rfl | (simp [wordAt, ofS_inj] at h)
  · rintro rfl; rfl
theorem vplace_le (v : Val) : v.place ≤ 5 := by cases v <;> simp [Val.place]
theorem pplace_le (p : Part) : p.place ≤ 5 := by cases p <;> simp [Part.place]
theorem sort_of_c {n : Nat} (hn : 1 ≤ n) (v : Val) : callF GC XC M n 6 [v.d] = .ok (.str v.word) ∧ callF GC XC M n 12 [v.d] = .ok (.str v.word) := by
  constructor
  · refine C_eq (fn := f_sort_of) (by omega) rfl rfl ?_
    unfold f_sort_of Val.word
    cases v with
    | row vs => rw [vd_row]; simp! only [Val.place, wordAt]
    | record ps => rw [vd_rec]; simp! only [Val.place, wordAt]
    | _ => rw [Val.d]; simp! only [Val.place, wordAt]
  · refine C_eq (fn := f__law_sort) (by omega) rfl rfl ?_
    unfold f__law_sort Val.word
    cases v with
    | row vs => rw [vd_row]; simp! only [Val.place, wordAt]
    | record ps => rw [vd_rec]; simp! only [Val.place, wordAt]
    | _ => rw [Val.d]; simp! only [Val.place, wordAt]
theorem between_c {n : Nat} (hn : 1 ≤ n) (i : Int) (lo hi : Option Int) : callF GC XC M n 32 [.int i, optD lo, optD hi] = .ok (.bool (btw i lo hi)) ∧ callF GC XC M n 11 [.int i, optD lo, optD hi] = .ok (.bool (btw i lo hi)) := by
  constructor
  · refine C_eq (fn := f_is_between) (by omega) rfl rfl ?_
    unfold f_is_between btw
    cases lo with
    | none => cases hi with
      | none => simp! only [optD]
      | some b => by_cases h : i ≤ b <;> simp! only [optD, h, show (b < i) = ¬ i ≤ b by simp]
    | some a =>
      by_cases h1 : a ≤ i
      · cases hi with
        | none => simp! only [optD, h1, show (i < a) = ¬ a ≤ i by simp]
        | some b => by_cases h : i ≤ b <;> simp! only [optD, h, h1, show (b < i) = ¬ i ≤ b by simp, show (i < a) = ¬ a ≤ i by simp]
      · cases hi with
        | none => simp! only [optD, h1, show (i < a) = ¬ a ≤ i by simp]
        | some b => simp! only [optD, h1, show (i < a) = ¬ a ≤ i by simp]
  · refine C_eq (fn := f__law_between) (by omega) rfl rfl ?_
    unfold f__law_between btw
    cases lo with
    | none => cases hi with
      | none => simp! only [optD]
      | some b => by_cases h : i ≤ b <;> simp! only [optD, h, show (b < i) = ¬ i ≤ b by simp]
    | some a =>
      by_cases h1 : a ≤ i
      · cases hi with
        | none => simp! only [optD, h1, show (i < a) = ¬ a ≤ i by simp]
        | some b => by_cases h : i ≤ b <;> simp! only [optD, h, h1, show (b < i) = ¬ i ≤ b by simp, show (i < a) = ¬ a ≤ i by simp]
      · cases hi with
        | none => simp! only [optD, h1, show (i < a) = ¬ a ≤ i by simp]
        | some b => simp! only [optD, h1, show (i < a) = ¬ a ≤ i by simp]
/-- a part's word stands first -/
theorem part_first (p : Part) : ∃ r, p.d = .tuple (.str (wordAt p.place) :: r) := by
  cases p with
  | row k lo hi => rw [pd_row]; exact ⟨_, rfl⟩
  | record fs op => rw [pd_rec]; exact ⟨_, rfl⟩
  | _ => rw [Part.d]; exact ⟨_, rfl⟩
def optP : Option Part → D
  | none => .none
  | some p => p.d
theorem part_of_c {n : Nat} (hn : 1 ≤ n) (k : Kind) (pl : Nat) (hpl : pl ≤ 5) : callF GC XC M n 31 [kd k, .str (wordAt pl)] = .ok (optP (findP k pl)) := by
  refine C_eq (fn := f_part_of) (by omega) rfl rfl ?_
  unfold f_part_of kd
  simp! only [W_ok]
  refine W_for (i := Part.d) (l := k) (fun p ρ => ∃ o, ρ = [some (.dat (.tuple (k.map Part.d))), some (.dat (.str (wordAt pl))), o] ∧ ∀ q ∈ p, q.place ≠ pl) ⟨_, rfl, fun q hq => by cases hq⟩ ?_ ?_
  · rintro p a q ρ hl ⟨o, rfl, hp⟩
    refine ⟨_, rfl, ?_⟩
    obtain ⟨r, er⟩ := part_first a
    unfold bdF
    rw [er]
    by_cases h : a.place = pl
    · simp! only [wordAt_inj (pplace_le a) hpl, h]
      have : findP k pl = some a := by
        unfold findP
        rw [hl, List.find?_append]
        have h1 : p.find? (fun p => decide (p.place = pl)) = none := List.find?_eq_none.mpr fun x hx => by simpa using hp x hx
        rw [h1, List.find?_cons_of_pos (by simp [h])]
        rfl
      rw [this, ← h]
      exact er.symm
    · simp! only [wordAt_inj (pplace_le a) hpl, h]
      refine ⟨_, rfl, fun x hx => ?_⟩
      rcases List.mem_append.mp hx with hx | hx
      · exact hp x hx
      · simp at hx; subst hx; exact h
  · rintro ρ ⟨o, rfl, hp⟩
    simp! only [W_ok]
    have : findP k pl = none := List.find?_eq_none.mpr fun x hx => by simpa using hp x hx
    rw [this]
    rfl
theorem eq_b (a b : Bool) : eqD (.bool a) (.bool b) = some (a == b) := by
  unfold eqD
  rw [if_pos (by refine ⟨by unfold noD; rfl, by unfold noD; rfl, ?_⟩; simp [PyData.depth])]
  cases a <;> cases b <;> simp [PyData.eqv]
theorem len_map {α : Type} (f : α → D) (l : List α) : btD .len [.tuple (l.map f)] = some (.int (l.length : Nat)) := by
  rw [len_t, List.length_map]
theorem fits_bounds_c {n : Nat} (hn : 2 ≤ n) (v : Val) (p : Part) (h : p.place = v.place) : callF GC XC M n 33 [v.d, p.d] = .ok (.bool (ownB v p)) := by
  refine C_eq (fn := f_fits_bounds) (by omega) rfl rfl ?_
  unfold f_fits_bounds
  have bt := fun i lo hi => (between_c (n := n - 1) (by omega) i lo hi).1
  have bs : ∀ (i lo : Int) (hi : Option Int), callF GC XC M (n - 1) 32 [.int i, .int lo, optD hi] = _ := fun i lo hi => bt i (some lo) hi
  cases v with
  | whole i => cases p <;> first | (cases h; done) | (rw [Val.d, Part.d]; simp! only [bt, ownB])
  | text s => cases p <;> first | (cases h; done) | (rw [Val.d, Part.d]; simp! only [bs, ownB])
  | truth b =>
    cases p with
    | truth t => rw [Val.d, Part.d]; cases t <;> simp! only [ownB, optB, trOk, eq_b]
    | _ => cases h
  | nothing => cases p <;> first | (cases h; done) | (rw [Val.d, Part.d]; simp! only [ownB])
  | row vs =>
    cases p with
    | row k lo hi => rw [vd_row, pd_row]; simp! only [ownB, List.length_map, bs]
    | _ => cases h
  | record ps =>
    cases p with
    | record fs op => rw [vd_rec, pd_rec]; simp! only [ownB]
    | _ => cases h
end G7

namespace G7
open PySem
local macro_rules | `(tactic| dsimp! only [$xs,*]) => `(tactic| simp only [e_var, e_glob, e_kI, e_kS, e_kB, e_kN, e_tp, e_ls, e_dn, e_op, e_ng, e_cmp, e_chn, e_an, e_orr, e_on, e_nt, e_it, e_ix, e_sl, e_cl, e_bt, e_is, e_lcm, x_nil, x_cons, sq_n, sq_r, sq_c, sq_b, x_asg, x_asgT, x_ret, x_retN, x_if, x_for, x_whl, x_app, x_ext, x_dput, x_pass, x_cont, x_brk, evalA, evalAB, evalC, evalI, bnd, bor, view, read, Env.at, Env.put, b_ok, b_bad, b_exc, b_ite, of_some, of_none, om_some, om_none, ob_some, calm_k, tr_b, tr_n, tr_i, tr_l, tr_t, fl_ret, fl_next, fl_ite, len_s, len_l, len_t, tup_l, int_b, initE, List.map_cons, List.map_nil, List.length_cons, List.length_nil, List.cons_append, List.nil_append, List.replicate, frzE, esc, escA, escB, escAB, escI, escC, op2, add_i, sub_i, cmpD, lt_i, lt_s, is_n, is_b, eq_s, eq_i, tup_at, lst_at, str_at, Sl.d, fresh, isCont, Bool.false_and, Bool.and_false, Bool.true_and, Bool.and_true, if_true, if_false, ite_true, ite_false, Nat.reduceAdd, Nat.reduceSub, bindT, bindT.bindTs, wipeE, Tg.slots, List.any_cons, List.any_nil, isTy, escJ, Bool.or_false, Bool.false_or, Bool.or_true, Bool.true_or, Bool.not_true, Bool.not_false, Bool.false_eq_true, seqD, decide_true, decide_false, nc_lit, eq_self, Int.reduceEq, Nat.reduceEqDiff, and_self, and_true, true_and, $xs,*])
local macro_rules | `(tactic| simp! only [$xs,*]) => `(tactic| simp -implicitDefEqProofs only [e_var, e_glob, e_kI, e_kS, e_kB, e_kN, e_tp, e_ls, e_dn, e_op, e_ng, e_cmp, e_chn, e_an, e_orr, e_on, e_nt, e_it, e_ix, e_sl, e_cl, e_bt, e_is, e_lcm, x_nil, x_cons, sq_n, sq_r, sq_c, sq_b, x_asg, x_asgT, x_ret, x_retN, x_if, x_for, x_whl, x_app, x_ext, x_dput, x_pass, x_cont, x_brk, evalA, evalAB, evalC, evalI, b_ok, b_bad, b_exc, b_ite, of_some, of_none, om_some, om_none, ob_some, calm_k, tr_b, tr_n, tr_i, tr_l, tr_t, fl_ret, fl_next, fl_ite, len_s, len_l, len_t, tup_l, int_b, initE, List.map_cons, List.map_nil, List.length_cons, List.length_nil, List.cons_append, List.nil_append, List.replicate, esc, escA, escB, escAB, escI, escC, op2, add_i, sub_i, cmpD, lt_i, lt_s, is_n, is_b, eq_s, eq_i, tup_at, lst_at, str_at, Sl.d, fresh, isCont, Bool.false_and, Bool.and_false, Bool.true_and, Bool.and_true, if_true, if_false, ite_true, ite_false, Nat.reduceAdd, Nat.reduceSub, Tg.slots, List.any_cons, List.any_nil, isTy, escJ, Bool.or_false, Bool.false_or, Bool.or_true, Bool.true_or, Bool.not_true, Bool.not_false, Bool.false_eq_true, decide_true, decide_false, nc_lit, eq_self, Int.reduceEq, Nat.reduceEqDiff, and_self, and_true, true_and, ofS_inj, String.reduceEq, W_ok, W_ite, b_assoc, bk_r, bk_n, tn_n, tn_c, tn_b, tn_r, decide_eq_true_eq, Bool.not_eq_true', decide_eq_false_iff_not, Nat.add_sub_cancel, List.append_nil, List.not_mem_nil, not_true_eq_false, not_false_eq_true, ownK, ownL, dKey, Bool.true_eq_false, List.mem_cons, or_self, or_false, false_or, List.filter_cons, List.filter_nil, List.contains_cons, List.contains_nil, Nat.reduceBEq, Nat.reduceLeDiff, Int.reduceLT, Int.reduceLE, Int.reduceNeg, Nat.zero_add, bor_var, bnd_kN, bndI, view_s, view_d, view_o, view_l, read_s, read_d, read_o, at_s, at_0, put_s, put_0, frz_nil, frz_cons, frz1_s, frz1_o, frz1_d, frz1_l, frz1_n, bt_nm, bt_tp, bts_nil, bts_cons, wipe_nil, wipe_cons, seq_l, seq_t, seq_s, bq_tt, bq_tf, bq_ft, bq_ff, ad_t, ad_l, ai0, ai1, ai2, ai3, ng_i, int_i, mx_i, mn_i, bor_glob, bor_kI, bor_kS, bor_kB, bor_kN, bor_nil, bor_cons, bor_tup, bor_lst, bor_dnew, bor_dct1, bor_op, bor_neg, bor_cmp, bor_chain, bor_and, bor_or, bor_one, bor_not, bor_ite, bor_idx, bor_slc, bor_call, bor_bt, bor_isi, bor_lc, bnd_glob, bnd_kI, bnd_kS, bnd_kB, bnd_nil, bnd_cons, bnd_tup, bnd_lst, bnd_dnew, bnd_dct1, bnd_op, bnd_neg, bnd_cmp, bnd_chain, bnd_and, bnd_or, bnd_one, bnd_not, bnd_ite, bnd_idx, bnd_slc, bnd_call, bnd_bt, bnd_isi, bnd_lc, bnd_var, $xs,*])
theorem pathD_add {path : Path} (h : path.length ≤ 900) (x : L2.Key) : addD (pathD path) (.tuple [keyD x]) = some (pathD (path ++ [x])) := by
  unfold pathD
  rw [ad_t (by rw [List.length_map]; simp; omega), List.map_append]
  rfl
theorem big23 {a : Nat} (h : a ≤ 16777215) : a < sizeLine := Nat.lt_of_le_of_lt h (by decide)
theorem big24 {a : Nat} (h : a ≤ 16777216) : a ≤ sizeLine := Nat.le_trans h (by decide)
def fieldJ (f : Kind × Bool) : D := .tuple [kd f.1, .bool f.2]
/-- what a def tells of the faults of a value -/
def FaultsAt (d : Nat) : Prop := ∀ (k : Kind) (v : Val) (path : Path) (w n : Nat), 1 ≤ w → w ≤ 31 → v.dp < d → Kok w k → Val.ok w v → bnd1 w (kdp k) ≤ 16000000 → path.length + v.dp ≤ 800 → 3 * d ≤ n → callF GC XC M n 35 [kd k, v.d, pathD path] = .ok (.list ((faultsIn d k v path).map faultT))
theorem bnd_le {w m n X : Nat} (hw : 1 ≤ w) (h : m ≤ n) (hb : bnd1 w n ≤ X) : bnd1 w m ≤ X := by
  rcases bnd1_mono (w := w) h with h | h
  · exact Nat.le_trans h.2 hb
  · omega
theorem bnd_down {w m n : Nat} (hw : 1 ≤ w) (h : m < n) (hb : bnd1 w n ≤ 16000000) : bnd1 w m ≤ 16000000 ∧ 2 * w * bnd1 w m ≤ 16000000 := by
  obtain ⟨n, rfl⟩ : ∃ e, n = e + 1 := ⟨n - 1, by omega⟩
  have hb : 1 + 2 * w * bnd1 w n ≤ 16000000 := hb
  have h1 : bnd1 w m ≤ bnd1 w n := by
    rcases bnd1_mono (w := w) (show m ≤ n by omega) with h | h
    · exact h.2
    · omega
  have h2 : 2 * w * bnd1 w m ≤ 2 * w * bnd1 w n := Nat.mul_le_mul_left _ h1
  have h3 : bnd1 w n ≤ 2 * w * bnd1 w n := Nat.le_mul_of_pos_left _ (by omega)
  omega
/-- the faults of one name -/
def oneName (d : Nat) (fs : List Field) (ps : List (Str × Val)) (op : Bool) (path : Path) (n : Str) : List Fault := match getA fs n, getA ps n with
  | none, _ => if op = true then [] else [(path ++ [Sum.inr n], "strange")]
  | some f, some v' => faultsIn d f.1 v' (path ++ [Sum.inr n])
  | some f, none => if f.2 = true then [(path ++ [Sum.inr n], "lacks")] else []
theorem faults_of_pairs_c {d : Nat} (ih : FaultsAt d) (fs : List Field) (ps : List (Str × Val)) (op : Bool) (path : Path) (w n : Nat) (hw : 1 ≤ w) (hw2 : w ≤ 31) (hd : (Val.record ps).dp < d + 1) (hk : Part.ok w (.record fs op)) (hv : Val.ok w (.record ps)) (hb : bnd1 w (Part.record fs op).dp ≤ 16000000) (hpl : path.length + (Val.record ps).dp ≤ 800) (hn : 3 * d + 1 ≤ n) :
    callF GC XC M n 34 [(Part.record fs op).d, .tuple (ps.map pairD), pathD path] = .ok (.list (((namesOf (fs.map (·.1) ++ ps.map (·.1))).flatMap (oneName d fs ps op path)).map faultT)) := by
  obtain ⟨hn1, hfl, hkf⟩ := Kok.field hk
  cases hv with
  | record hpn hl hvs =>
    have ndp := hpn.1.nodup
    have ndf := hn1.1.nodup
    refine C_eq (fn := f_faults_of_pairs) (by omega) rfl rfl ?_
    unfold f_faults_of_pairs
    rw [pd_rec]
    have l1 : ∀ f : D → Res (Option D), (∀ x ∈ fs, f (fieldT x) = .ok (some (.tuple [.str x.1, fieldJ x.2]))) → lcLoop f (fs.map fieldT) = .ok (fs.map fun x => .tuple [.str x.1, fieldJ x.2]) := fun f h => lc_map h
    simp! only [W_ok]
    rw [l1 _ (fun x hx => by unfold lcF fieldT; simp! only [W_ok]; rfl)]
    have dp : btD .dict [.tuple (ps.map pairD)] = some (.dict (encJ Val.d ps)) := dict_encT Val.d ndp
    have hlen : (((fs.map (·.1)).map PyData.str).length + ((ps.map (·.1)).map PyData.str).length) ≤ 1000 := by simp only [List.length_map]; omega
    have hset : btD .sset [.list ((fs.map (·.1)).map PyData.str ++ (ps.map (·.1)).map PyData.str)] = some (.list ((namesOf (fs.map (·.1) ++ ps.map (·.1))).map .str)) := by
      rw [← List.map_append]
      exact setD_str (by rw [List.length_append, List.length_map, List.length_map]; omega)
    simp! only [dict_encJ fieldJ ndf, dp, list_encJ, ad_l hlen, hset]
    have nl := nm_len (fs.map (·.1) ++ ps.map (·.1))
    rw [List.length_append, List.length_map, List.length_map] at nl
    have each : ∀ x, (oneName d fs ps op path x).length ≤ bnd1 w ((Part.record fs op).dp - 1) := by
      intro x
      have pos := bnd1_pos w ((Part.record fs op).dp - 1)
      unfold oneName
      cases hg : getA fs x with
      | none => simp only []; split <;> simp <;> omega
      | some f =>
        cases hg2 : getA ps x with
        | none => simp only []; split <;> simp <;> omega
        | some v' =>
          have hp := getA_some hg2
          have := pdp_field (op := op) (getA_some hg)
          exact faults_len d f.1 v' _ w hw (hkf _ (getA_some hg)) (hvs _ hp) _ (by simp only at this; omega)
    have dpos : 0 < (Part.record fs op).dp := by rw [pdp_rec]; omega
    have bd := bnd_down hw (show (Part.record fs op).dp - 1 < (Part.record fs op).dp by omega) hb
    refine W_for (i := PyData.str) (l := namesOf (fs.map (·.1) ++ ps.map (·.1))) (fun p ρ => ∃ o7 o8 o9, ρ = [some (.dat (.tuple [.str "record", .tuple (fs.map fieldT), .bool op])), some (.dat (.tuple (ps.map pairD))), some (.dat (pathD path)), some (.own (.dict (encJ fieldJ fs))), some (.own (.dict (encJ Val.d ps))), some (.own (.list ((p.flatMap (oneName d fs ps op path)).map faultT))), o7, o8, o9] ∧ (p.flatMap (oneName d fs ps op path)).length ≤ p.length * bnd1 w ((Part.record fs op).dp - 1)) ⟨_, _, _, rfl, by simp⟩ ?_ ?_
    · rintro p x q ρ hl2 ⟨o7, o8, o9, rfl, hcnt⟩
      have hx : x ∈ namesOf (fs.map (·.1) ++ ps.map (·.1)) := by rw [hl2]; simp
      have hpn2 : p.length + 1 ≤ 2 * w := by
        have := congrArg List.length hl2
        simp at this
        omega
      have fits : (p.length + 1) * bnd1 w ((Part.record fs op).dp - 1) ≤ 16000000 := Nat.le_trans (Nat.mul_le_mul_right _ hpn2) bd.2
      rw [Nat.succ_mul] at fits
      have e1 := each x
      have tot : ((p ++ [x]).flatMap (oneName d fs ps op path)) = p.flatMap (oneName d fs ps op path) ++ oneName d fs ps op path x := by simp
      have cnt2 : ((p ++ [x]).flatMap (oneName d fs ps op path)).length ≤ (p ++ [x]).length * bnd1 w ((Part.record fs op).dp - 1) := by
        rw [tot, List.length_append, List.length_append, List.length_singleton, Nat.succ_mul]
        omega
      have pa : addD (pathD path) (.tuple [.str x]) = some (pathD (path ++ [Sum.inr x])) := pathD_add (by omega) (Sum.inr x)
      refine ⟨_, rfl, ?_⟩
      have sz : ((p.flatMap (oneName d fs ps op path)).map faultT).length < sizeLine := big23 (by rw [List.length_map]; omega)
      unfold bdF
      cases hg : getA fs x with
      | none =>
        have nf : x ∉ fs.map (·.1) := getA_none.mp hg
        cases op with
        | true =>
          simp! only [in_encJ, nf]
          refine ⟨some (.dat (.str x)), o8, o9, ?_, cnt2⟩
          rw [tot]
          unfold oneName
          rw [hg]
          simp
        | false =>
          simp! only [in_encJ, nf, pa, sz, List.mem_cons]
          refine ⟨some (.dat (.str x)), o8, o9, ?_, cnt2⟩
          rw [tot]
          unfold oneName
          rw [hg]
          simp [faultT]
      | some f =>
        have hf := getA_some hg
        have nf : x ∈ fs.map (·.1) := List.mem_map.mpr ⟨_, hf, rfl⟩
        cases hg2 : getA ps x with
        | none =>
          have np : x ∉ ps.map (·.1) := getA_none.mp hg2
          cases hm : f.2 with
          | true =>
            simp! only [in_encJ, nf, np, idx_encJ, hg, fieldJ, hm, pa, sz, List.mem_cons]
            refine ⟨some (.dat (.str x)), o8, o9, ?_, cnt2⟩
            rw [tot]
            unfold oneName
            rw [hg, hg2]
            simp [faultT, hm]
          | false =>
            simp! only [in_encJ, nf, np, idx_encJ, hg, fieldJ, hm]
            refine ⟨some (.dat (.str x)), o8, o9, ?_, cnt2⟩
            rw [tot]
            unfold oneName
            rw [hg, hg2]
            simp [hm]
        | some v' =>
          have hp := getA_some hg2
          have hpd := vdp_rec_mem hp
          simp only at hpd
          have np : x ∈ ps.map (·.1) := List.mem_map.mpr ⟨_, hp, rfl⟩
          have hc := ih f.1 v' (path ++ [Sum.inr x]) w (n - 1) hw hw2 (by omega) (hkf _ hf) (hvs _ hp) (bnd_down hw (pdp_field (op := op) hf) hb).1 (by rw [List.length_append, List.length_singleton]; omega) (by omega)
          have eo : oneName d fs ps op path x = faultsIn d f.1 v' (path ++ [Sum.inr x]) := by unfold oneName; rw [hg, hg2]
          rw [eo] at e1 tot
          have sz2 : ((p.flatMap (oneName d fs ps op path)).map faultT).length + ((faultsIn d f.1 v' (path ++ [Sum.inr x])).map faultT).length ≤ sizeLine := big24 (by rw [List.length_map, List.length_map]; omega)
          simp! only [in_encJ, nf, np, idx_encJ, hg, hg2, fieldJ, pa, hc, sz2, List.mem_cons]
          refine ⟨some (.dat (.str x)), o8, o9, ?_, cnt2⟩
          rw [tot, List.map_append]
    · rintro ρ ⟨o7, o8, o9, rfl, hcnt⟩
      simp! only [W_ok]
theorem faults_in_c : ∀ d : Nat, FaultsAt d := by
  intro d
  induction d with
  | zero => intro k v path w n _ _ h; omega
  | succ d ih =>
    intro k v path w n hw hw2 hd hk hv hb hpl hn
    refine C_eq (fn := f_faults_in) (by omega) rfl rfl ?_
    unfold f_faults_in
    have so : callF GC XC M (n - 1) 6 [v.d] = .ok (.str (wordAt v.place)) := (sort_of_c (by omega) v).1
    have po := part_of_c (n := n - 1) (by omega) k v.place (vplace_le v)
    cases hf : findP k v.place with
    | none =>
      rw [hf] at po
      simp! only [so, po, optP]
      unfold faultsIn
      rw [hf]
      rfl
    | some p =>
      rw [hf] at po
      obtain ⟨hpk, hpl2⟩ := findP_some hf
      have hpo := hk.parts p hpk
      have hbp := bnd_le hw (kdp_mem hpk) hb
      have fb := fits_bounds_c (n := n - 1) (by omega) v p hpl2
      obtain ⟨r, er⟩ := part_first p
      have w4 : (wordAt p.place = "row") = (p.place = 4) := wordAt_inj (j := 4) (pplace_le p) (by omega)
      have w5 : (wordAt p.place = "record") = (p.place = 5) := wordAt_inj (j := 5) (pplace_le p) (by omega)
      have l0 : 0 < sizeLine := by decide
      have po : callF GC XC M (n - 1) 31 [kd k, .str (wordAt v.place)] = .ok p.d := po
      have flat : p.place ≠ 4 → p.place ≠ 5 → faultsIn (d + 1) k v path = (if ownB v p = true then [] else [(path, "bounds")] : List Fault) := by
        intro h4 h5
        unfold faultsIn
        rw [hf]
        cases v <;> cases p <;> first | (cases hpl2; done) | exact absurd rfl h4 | exact absurd rfl h5 | simp
      by_cases h4 : p.place = 4
      · cases p with
        | row k' lo hi =>
          cases v with
          | row vs =>
            obtain ⟨hk', _⟩ := Kok.row hpo
            cases hv with
            | row hl hvs =>
              have ef : faultsIn (d + 1) k (.row vs) path = (if ownB (.row vs) (.row k' lo hi) = true then [] else [(path, "bounds")] : List Fault) ++ vs.zipIdx.flatMap fun (q : Val × Nat) => faultsIn d k' q.1 (path ++ [Sum.inl (q.2 : Int)]) := by
                conv => lhs; unfold faultsIn
                rw [hf]
              have dpos : (Part.row k' lo hi).dp = 1 + kdp k' := pdp_row k' lo hi
              have bd := bnd_down hw (show (Part.row k' lo hi).dp - 1 < (Part.row k' lo hi).dp by omega) hbp
              have each : ∀ q ∈ vs.zipIdx, (faultsIn d k' q.1 (path ++ [Sum.inl (q.2 : Int)])).length ≤ bnd1 w ((Part.row k' lo hi).dp - 1) := fun q hq => by
                have hmem : q.1 ∈ vs := List.mem_of_getElem? (List.mem_zipIdx_iff_getElem?.mp hq)
                exact faults_len d k' q.1 _ w hw hk' (hvs _ hmem) _ (by omega)
              rw [ef, vd_row]
              rw [vd_row] at so
              rw [vd_row, pd_row] at fb
              rw [pd_row] at po
              cases e : ownB (.row vs) (.row k' lo hi) <;> (
                rw [e] at fb
                simp! only [so, po, fb, l0, List.mem_cons, enum_map]
                refine W_for (i := fun p : Val × Nat => PyData.tuple [.int ((p.2 : Nat) : Int), p.1.d]) (l := vs.zipIdx) (fun p ρ => ∃ o5 o6, ρ = [some (.dat (kd k)), some (.dat (.tuple [.str "row", .tuple (vs.map Val.d)])), some (.dat (pathD path)), some (.dat (.tuple [.str "row", kd k', .int lo, optD hi])), some (.own (.list (((if ownB (.row vs) (.row k' lo hi) = true then [] else [(path, "bounds")] : List Fault) ++ p.flatMap fun (q : Val × Nat) => faultsIn d k' q.1 (path ++ [Sum.inl (q.2 : Int)])).map faultT))), o5, o6] ∧ (p.flatMap fun (q : Val × Nat) => faultsIn d k' q.1 (path ++ [Sum.inl (q.2 : Int)])).length ≤ p.length * bnd1 w ((Part.row k' lo hi).dp - 1)) ⟨none, none, by simp [e, faultT], by simp⟩ ?_ ?_
                · rintro p x q ρ hl2 ⟨o5, o6, rfl, hcnt⟩
                  have hx : x ∈ vs.zipIdx := by rw [hl2]; simp
                  have hmem : x.1 ∈ vs := List.mem_of_getElem? (List.mem_zipIdx_iff_getElem?.mp hx)
                  have hpn2 : p.length + 1 ≤ 2 * w := by
                    have := congrArg List.length hl2
                    simp at this
                    omega
                  have fits : (p.length + 1) * bnd1 w ((Part.row k' lo hi).dp - 1) ≤ 16000000 := Nat.le_trans (Nat.mul_le_mul_right _ hpn2) bd.2
                  rw [Nat.succ_mul] at fits
                  have e1 := each x hx
                  have hpd := vdp_row_mem hmem
                  have hc := ih k' x.1 (path ++ [Sum.inl (x.2 : Int)]) w (n - 1) hw hw2 (by omega) hk' (hvs _ hmem) (bnd_down hw (show kdp k' < (Part.row k' lo hi).dp by omega) hbp).1 (by rw [List.length_append, List.length_singleton]; omega) (by omega)
                  have pa : addD (pathD path) (.tuple [.int ((x.2 : Nat) : Int)]) = some (pathD (path ++ [Sum.inl (x.2 : Int)])) := pathD_add (by omega) (Sum.inl (x.2 : Int))
                  have own : (if ownB (.row vs) (.row k' lo hi) = true then [] else [(path, "bounds")] : List Fault).length ≤ 1 := by split <;> simp
                  have sz2 : (((if ownB (.row vs) (.row k' lo hi) = true then [] else [(path, "bounds")] : List Fault) ++ p.flatMap fun (q : Val × Nat) => faultsIn d k' q.1 (path ++ [Sum.inl (q.2 : Int)])).map faultT).length + ((faultsIn d k' x.1 (path ++ [Sum.inl (x.2 : Int)])).map faultT).length ≤ sizeLine := big24 (by rw [List.length_map, List.length_map, List.length_append]; omega)
                  refine ⟨_, rfl, ?_⟩
                  unfold bdF
                  simp! only [pa, hc, sz2, List.mem_cons]
                  refine ⟨some (.dat (.int ((x.2 : Nat) : Int))), some (.dat x.1.d), ?_, ?_⟩
                  · simp only [List.flatMap_append, List.flatMap_singleton, List.map_append, List.append_assoc]
                  · rw [List.flatMap_append, List.flatMap_singleton, List.length_append, List.length_append, List.length_singleton, Nat.succ_mul]
                    omega
                · rintro ρ ⟨o5, o6, rfl, hcnt⟩
                  simp! only [e])
          | _ => cases hpl2
        | _ => cases h4
      · by_cases h5 : p.place = 5
        · cases p with
          | record fs op =>
            cases v with
            | record ps =>
              have fp := faults_of_pairs_c ih fs ps op path w (n - 1) hw hw2 hd hpo hv hbp hpl (by omega)
              have ef : faultsIn (d + 1) k (.record ps) path = (namesOf (fs.map (·.1) ++ ps.map (·.1))).flatMap (oneName d fs ps op path) := by
                unfold faultsIn
                rw [hf]
                simp only [ownB, if_true, List.nil_append]
                rfl
              rw [ef]
              have fl := faults_len (d + 1) k (.record ps) path w hw hk hv _ (Nat.le_refl _)
              rw [ef] at fl
              generalize (namesOf (fs.map (·.1) ++ ps.map (·.1))).flatMap (oneName d fs ps op path) = L at fl fp
              have sz2 : 0 + (L.map faultT).length ≤ sizeLine := big24 (by rw [List.length_map]; omega)
              have ow : ownB (.record ps) (.record fs op) = true := rfl
              rw [vd_rec, ow] at fb
              rw [vd_rec] at so
              rw [pd_rec] at fb po fp
              rw [vd_rec]
              rw [Nat.zero_add] at sz2
              simp! only [so, po, fb, fp, sz2, List.mem_cons]
            | _ => cases hpl2
          | _ => cases h5
        · rw [flat h4 h5]
          cases e : ownB v p with
          | true =>
            rw [e] at fb
            rw [er] at fb po
            simp! only [so, po, fb, w4, w5, h4, h5]
          | false =>
            rw [e] at fb
            rw [er] at fb po
            simp! only [so, po, fb, w4, w5, h4, h5, l0, List.mem_cons, faultT]
theorem noD_key (x : L2.Key) : noD (keyD x) = true := by cases x <;> (unfold keyD noD; rfl)
theorem noDs_of {xs : List D} (h : ∀ x ∈ xs, noD x = true) : noDs xs = true := by
  induction xs with
  | nil => rfl
  | cons x r ih =>
    unfold noDs
    rw [h x List.mem_cons_self, ih fun y hy => h y (List.mem_cons_of_mem _ hy)]
    rfl
theorem noD_tup {xs : List D} (h : ∀ x ∈ xs, noD x = true) : noD (.tuple xs) = true := by unfold noD; exact noDs_of h
theorem noD_list {xs : List D} (h : ∀ x ∈ xs, noD x = true) : noD (.list xs) = true := by unfold noD; exact noDs_of h
theorem noD_path (p : Path) : noD (pathD p) = true := noD_tup fun x hx => by
  obtain ⟨k, _, rfl⟩ := List.mem_map.mp hx
  exact noD_key k
theorem noD_fault (f : Fault) : noD (faultT f) = true := noD_tup fun x hx => by
  simp only [List.mem_cons, List.not_mem_nil, or_false] at hx
  rcases hx with rfl | rfl
  · exact noD_path _
  · unfold noD; rfl
theorem eq_nil (L : List Fault) : eqD (.list (L.map faultT)) (.list []) = some (decide (L = [])) := by
  unfold eqD
  rw [if_pos ⟨noD_list fun x hx => by
    obtain ⟨f, _, rfl⟩ := List.mem_map.mp hx
    exact noD_fault f, by unfold noD noDs; rfl, by simp [PyData.depth, PyData.depthAll]⟩]
  cases L with
  | nil => simp [PyData.eqv, PyData.eqvAll]
  | cons f L => simp [PyData.eqv, PyData.eqvAll]
theorem bnd25 {w : Nat} (h : w ≤ 25) : bnd1 w 4 ≤ 16000000 := by
  have m : ∀ n, bnd1 w n ≤ bnd1 25 n := fun n => by
    induction n with
    | zero => exact Nat.le_refl _
    | succ n ih =>
      show 1 + 2 * w * bnd1 w n ≤ 1 + 2 * 25 * bnd1 25 n
      exact Nat.add_le_add_left (Nat.mul_le_mul (by omega) ih) 1
  exact Nat.le_trans (m 4) (by decide)
/-- a kind for these defs -/
structure KG (k : Kind) : Prop where
  ok : Kok 25 k
  dp : kdp k ≤ 4
structure VG (v : Val) : Prop where
  ok : Val.ok 25 v
  dp : v.dp ≤ 40
theorem is_of_c {n : Nat} {k : Kind} {v : Val} (hk : KG k) (hv : VG v) (hn : 3 * v.dp + 4 ≤ n) : callF GC XC M n 36 [v.d, kd k] = .ok (.bool (isOf v k)) := by
  have hd := hv.dp
  refine C_eq (fn := f_is_of) (by omega) rfl rfl ?_
  unfold f_is_of
  have h : callF GC XC M (n - 1) 35 [kd k, v.d, .tuple []] = _ := faults_in_c (v.dp + 1) k v [] 25 (n - 1) (by omega) (by omega) (by omega) hk.ok hv.ok (bnd_le (by omega) hk.dp (bnd25 (by omega))) (by simp; omega) (by omega)
  have e : decide (faultsIn (v.dp + 1) k v [] = []) = isOf v k := by
    rw [Bool.eq_iff_iff, decide_eq_true_iff]
    exact faults_nil _ k v [] 25 (by omega) hk.ok hv.ok
  simp! only [h, eq_nil, e]
end G7

namespace G7
open PySem
local macro_rules | `(tactic| dsimp! only [$xs,*]) => `(tactic| simp only [e_var, e_glob, e_kI, e_kS, e_kB, e_kN, e_tp, e_ls, e_dn, e_op, e_ng, e_cmp, e_chn, e_an, e_orr, e_on, e_nt, e_it, e_ix, e_sl, e_cl, e_bt, e_is, e_lcm, x_nil, x_cons, sq_n, sq_r, sq_c, sq_b, x_asg, x_asgT, x_ret, x_retN, x_if, x_for, x_whl, x_app, x_ext, x_dput, x_pass, x_cont, x_brk, evalA, evalAB, evalC, evalI, bnd, bor, view, read, Env.at, Env.put, b_ok, b_bad, b_exc, b_ite, of_some, of_none, om_some, om_none, ob_some, calm_k, tr_b, tr_n, tr_i, tr_l, tr_t, fl_ret, fl_next, fl_ite, len_s, len_l, len_t, tup_l, int_b, initE, List.map_cons, List.map_nil, List.length_cons, List.length_nil, List.cons_append, List.nil_append, List.replicate, frzE, esc, escA, escB, escAB, escI, escC, op2, add_i, sub_i, cmpD, lt_i, lt_s, is_n, is_b, eq_s, eq_i, tup_at, lst_at, str_at, Sl.d, fresh, isCont, Bool.false_and, Bool.and_false, Bool.true_and, Bool.and_true, if_true, if_false, ite_true, ite_false, Nat.reduceAdd, Nat.reduceSub, bindT, bindT.bindTs, wipeE, Tg.slots, List.any_cons, List.any_nil, isTy, escJ, Bool.or_false, Bool.false_or, Bool.or_true, Bool.true_or, Bool.not_true, Bool.not_false, Bool.false_eq_true, seqD, decide_true, decide_false, nc_lit, eq_self, Int.reduceEq, Nat.reduceEqDiff, and_self, and_true, true_and, $xs,*])
local macro_rules | `(tactic| simp! only [$xs,*]) => `(tactic| simp -implicitDefEqProofs only [e_var, e_glob, e_kI, e_kS, e_kB, e_kN, e_tp, e_ls, e_dn, e_op, e_ng, e_cmp, e_chn, e_an, e_orr, e_on, e_nt, e_it, e_ix, e_sl, e_cl, e_bt, e_is, e_lcm, x_nil, x_cons, sq_n, sq_r, sq_c, sq_b, x_asg, x_asgT, x_ret, x_retN, x_if, x_for, x_whl, x_app, x_ext, x_dput, x_pass, x_cont, x_brk, evalA, evalAB, evalC, evalI, b_ok, b_bad, b_exc, b_ite, of_some, of_none, om_some, om_none, ob_some, calm_k, tr_b, tr_n, tr_i, tr_l, tr_t, fl_ret, fl_next, fl_ite, len_s, len_l, len_t, tup_l, int_b, initE, List.map_cons, List.map_nil, List.length_cons, List.length_nil, List.cons_append, List.nil_append, List.replicate, esc, escA, escB, escAB, escI, escC, op2, add_i, sub_i, cmpD, lt_i, lt_s, is_n, is_b, eq_s, eq_i, tup_at, lst_at, str_at, Sl.d, fresh, isCont, Bool.false_and, Bool.and_false, Bool.true_and, Bool.and_true, if_true, if_false, ite_true, ite_false, Nat.reduceAdd, Nat.reduceSub, Tg.slots, List.any_cons, List.any_nil, isTy, escJ, Bool.or_false, Bool.false_or, Bool.or_true, Bool.true_or, Bool.not_true, Bool.not_false, Bool.false_eq_true, decide_true, decide_false, nc_lit, eq_self, Int.reduceEq, Nat.reduceEqDiff, and_self, and_true, true_and, ofS_inj, String.reduceEq, W_ok, W_ite, b_assoc, bk_r, bk_n, tn_n, tn_c, tn_b, tn_r, decide_eq_true_eq, Bool.not_eq_true', decide_eq_false_iff_not, Nat.add_sub_cancel, List.append_nil, List.not_mem_nil, not_true_eq_false, not_false_eq_true, ownK, ownL, dKey, Bool.true_eq_false, List.mem_cons, or_self, or_false, false_or, List.filter_cons, List.filter_nil, List.contains_cons, List.contains_nil, Nat.reduceBEq, Nat.reduceLeDiff, Int.reduceLT, Int.reduceLE, Int.reduceNeg, Nat.zero_add, bor_var, bnd_kN, bndI, view_s, view_d, view_o, view_l, read_s, read_d, read_o, at_s, at_0, put_s, put_0, frz_nil, frz_cons, frz1_s, frz1_o, frz1_d, frz1_l, frz1_n, bt_nm, bt_tp, bts_nil, bts_cons, wipe_nil, wipe_cons, seq_l, seq_t, seq_s, bq_tt, bq_tf, bq_ft, bq_ff, ad_t, ad_l, ai0, ai1, ai2, ai3, ng_i, int_i, mx_i, mn_i, bor_glob, bor_kI, bor_kS, bor_kB, bor_kN, bor_nil, bor_cons, bor_tup, bor_lst, bor_dnew, bor_dct1, bor_op, bor_neg, bor_cmp, bor_chain, bor_and, bor_or, bor_one, bor_not, bor_ite, bor_idx, bor_slc, bor_call, bor_bt, bor_isi, bor_lc, bnd_glob, bnd_kI, bnd_kS, bnd_kB, bnd_nil, bnd_cons, bnd_tup, bnd_lst, bnd_dnew, bnd_dct1, bnd_op, bnd_neg, bnd_cmp, bnd_chain, bnd_and, bnd_or, bnd_one, bnd_not, bnd_ite, bnd_idx, bnd_slc, bnd_call, bnd_bt, bnd_isi, bnd_lc, bnd_var, $xs,*])
theorem Part.ok.mono {w w' : Nat} (h : w ≤ w') : ∀ p : Part, Part.ok w p → Part.ok w' p := by
  refine Part.ind ?_ ?_ ?_ ?_ ?_ ?_
  · intro lo hi h; cases h with | whole a b => exact .whole a fun z => b (by omega)
  · intro lo hi h; cases h with | text a => exact .text a
  · intro t h; exact .truth t
  · intro h; exact .nothing
  · intro k lo hi ih hp
    obtain ⟨a, b⟩ := Kok.row hp
    exact .row b a.ord fun p hp => ih p hp (a.parts p hp)
  · intro fs op ih hp
    obtain ⟨a, b, c⟩ := Kok.field hp
    exact .record a (by omega) (fun f hf => (c f hf).ord) fun f hf p hp => ih f hf p hp ((c f hf).parts p hp)
theorem Kok.mono {w w' : Nat} (h : w ≤ w') {k : Kind} (hk : Kok w k) : Kok w' k := ⟨hk.ord, fun p hp => Part.ok.mono h p (hk.parts p hp)⟩
theorem Val.ok.mono {w w' : Nat} (h : w ≤ w') : ∀ v : Val, Val.ok w v → Val.ok w' v := by
  refine Val.ind ?_ ?_ ?_ ?_ ?_ ?_
  · intro i _; exact .whole i
  · intro s h; cases h with | text a => exact .text a
  · intro b _; exact .truth b
  · intro _; exact .nothing
  · intro vs ih hv; cases hv with | row a b => exact .row (by omega) fun v hv => ih v hv (b v hv)
  · intro ps ih hv; cases hv with | record a b c => exact .record a (by omega) fun p hp => ih p hp (c p hp)
theorem vdp_flat {v : Val} (h : v.place < 4) : v.dp = 0 := by
  cases v <;> first | (simp [Val.place] at h; done) | (rw [Val.dp])
theorem vdp_le {v : Val} {n : Nat} (h4 : ∀ vs, v = .row vs → 1 ≤ n ∧ ∀ x ∈ vs, x.dp + 1 ≤ n) (h5 : ∀ ps, v = .record ps → 1 ≤ n ∧ ∀ p ∈ ps, p.2.dp + 1 ≤ n) : v.dp ≤ n := by
  cases v with
  | row vs =>
    obtain ⟨h, h4⟩ := h4 vs rfl
    rw [vdp_row]
    have : maxN (vs.map Val.dp) ≤ n - 1 := maxN_le fun m hm => by
      obtain ⟨x, hx, rfl⟩ := List.mem_map.mp hm
      have := h4 x hx
      omega
    omega
  | record ps =>
    obtain ⟨h, h5⟩ := h5 ps rfl
    rw [vdp_rec]
    have : maxN (ps.map fun p => p.2.dp) ≤ n - 1 := maxN_le fun m hm => by
      obtain ⟨x, hx, rfl⟩ := List.mem_map.mp hm
      have := h5 x hx
      omega
    omega
  | _ => rw [Val.dp]; omega
/-! ### drawn values -/
def ValueAt (deep : Nat) : Prop := ∀ (c : Int) (n : Nat), deep + 3 ≤ n → ∃ v, callF GC XC M n 10 [.int c, .int deep] = .ok v.d ∧ Val.ok 3 v ∧ v.dp ≤ deep
theorem ok_str {s : Str} (h : s.length ≤ 1000) : Val.ok 3 (.text s) := .text h
theorem cut_len {α : Type} (xs : List α) (i j : Option Int) : (cutD xs i j).length ≤ xs.length := by
  unfold cutD
  rw [List.length_take, List.length_drop]
  omega
theorem law_value_of {deep : Nat} (ih : ∀ e, deep = e + 1 → ValueAt e) (m : Int) (hm : m = if 0 < deep then 7 else 5) : ValueAt deep := by
  intro c n hn
  have hm5 : 5 ≤ m ∧ m ≤ 7 ∧ (5 < m → 0 < deep) := by subst hm; split <;> omega
  obtain ⟨w, mx, lo, hi⟩ := mix_x (n := n - 1) (by omega) c 9859 m (by omega) (by omega)
  have hd0 : (0 < (deep : Int)) = (0 < deep) := by simp
  have hsum : (5 : Int) + 2 * (if 0 < deep then 1 else 0 : Int) = m := by subst hm; split <;> rfl
  have m2 := fun a => mul_k (k := 2) (by decide) a
  have ways : w = 0 ∨ w = 1 ∨ w = 2 ∨ w = 3 ∨ w = 4 ∨ w = 5 ∨ w = 6 := by omega
  rcases ways with rfl | rfl | rfl | rfl | rfl | rfl | rfl
  · obtain ⟨x, mx2, _, _⟩ := mix_x (n := n - 1) (by omega) c 9857 25 (by omega) (by omega)
    refine ⟨.whole (x - 12), C_eq (fn := f__law_value) (by omega) rfl rfl ?_, .whole _, by rw [Val.dp]; omega⟩
    unfold f__law_value Val.d
    simp! only [hd0, m2, hsum, mx, mx2]
  · obtain ⟨x, mx2, _, _⟩ := mix_x (n := n - 1) (by omega) c 9851 7 (by omega) (by omega)
    refine ⟨.text ⟨(cutD (Str.cps "abc;de").toList none (some x)).toArray⟩, C_eq (fn := f__law_value) (by omega) rfl rfl ?_, ok_str ?_, by rw [Val.dp]; omega⟩
    · unfold f__law_value Val.d
      simp! only [hd0, m2, hsum, mx, mx2, slcD]
    · have := cut_len (Str.cps "abc;de").toList none (some x)
      have e : (Str.cps "abc;de").toList.length = 6 := by kernel_rfl
      show (cutD _ _ _).toArray.size ≤ 1000
      simp
      omega
  · have md : modD (.int c) (.int 2) = some (.int (c % 2)) := mod_i (by omega)
    refine ⟨.truth (decide (c % 2 = 0)), C_eq (fn := f__law_value) (by omega) rfl rfl ?_, .truth _, by rw [Val.dp]; omega⟩
    unfold f__law_value Val.d
    simp! only [hd0, m2, hsum, mx, md]
  · refine ⟨.nothing, C_eq (fn := f__law_value) (by omega) rfl rfl ?_, .nothing, by rw [Val.dp]; omega⟩
    unfold f__law_value Val.d
    simp! only [hd0, m2, hsum, mx]
  · obtain ⟨x, mx2, _, _⟩ := mix_x (n := n - 1) (by omega) c 9839 4 (by omega) (by omega)
    obtain ⟨v, hv, ho, hdp⟩ : ∃ v : Val, L2.atI [PyData.int 0, .str "", .int 1000000000, .str "aaaaaaaaaaaa"] x = some v.d ∧ Val.ok 3 v ∧ v.dp = 0 := by
      have : x = 0 ∨ x = 1 ∨ x = 2 ∨ x = 3 := by omega
      rcases this with rfl | rfl | rfl | rfl
      · exact ⟨.whole 0, by rw [Val.d]; rfl, .whole _, by rw [Val.dp]⟩
      · exact ⟨.text "", by rw [Val.d]; rfl, .text (by decide), by rw [Val.dp]⟩
      · exact ⟨.whole 1000000000, by rw [Val.d]; rfl, .whole _, by rw [Val.dp]⟩
      · exact ⟨.text "aaaaaaaaaaaa", by rw [Val.d]; rfl, .text (by decide +kernel), by rw [Val.dp]⟩
    refine ⟨v, C_eq (fn := f__law_value) (by omega) rfl rfl ?_, ho, by omega⟩
    unfold f__law_value
    simp! only [hd0, m2, hsum, mx, mx2, pow109, mulA12, hv]
  · obtain ⟨e, rfl⟩ : ∃ e, deep = e + 1 := ⟨deep - 1, by omega⟩
    obtain ⟨x, mx2, x0, x1⟩ := mix_x (n := n - 1) (by omega) c 9833 4 (by omega) (by omega)
    have hm1 : ((e + 1 : Nat) : Int) - 1 = (e : Nat) := by omega
    suffices h : W (callF GC XC M n 10 [.int c, .int ((e + 1 : Nat) : Int)]) (fun d => ∃ v : Val, d = v.d ∧ Val.ok 3 v ∧ v.dp ≤ e + 1) by
      obtain ⟨d, h1, v, rfl, q⟩ := h
      exact ⟨v, h1, q⟩
    refine W_call (fn := f__law_value) (by omega) rfl rfl ?_
    unfold f__law_value
    simp! only [hd0, m2, hsum, mx, mx2, rng_c x0 (show x ≤ 1000 by omega), rng0]
    obtain ⟨vs, ev, hl, hvs⟩ := lc_ex (f := lcF GC (callF GC XC M (n - 1)) (E.call 10 (E.cons (E.op .add (E.op .add (E.var 0) (E.op .mul (E.kI 7) (E.var 4))) (E.kI 1)) (E.cons (E.op .sub (E.var 1) (E.kI 1)) E.nil))) (.nm 4) E.nil [some (.dat (.int c)), some (.dat (.int ((e + 1 : Nat) : Int))), some (.dat (.int 5)), none, none, none]) (i := fun k : Nat => PyData.int (k : Int)) (j := Val.d) (P := fun _ v => Val.ok 3 v ∧ v.dp ≤ e) (l := List.range x.toNat) (fun k _ => by
      obtain ⟨v, h1, h2, h3⟩ := ih e rfl (c + 7 * (k : Int) + 1) (n - 1) (by omega)
      refine ⟨v, ?_, h2, h3⟩
      unfold lcF
      simp! only [mul_k (k := 7) (by decide), hm1, h1])
    rw [ev]
    simp! only [W_ok]
    refine ⟨.row vs, by rw [vd_row], .row (by rw [hl, List.length_range]; omega) fun v hv => by obtain ⟨_, _, q⟩ := hvs v hv; exact q.1, vdp_le (fun us he => ?_) (fun ps he => by cases he)⟩
    cases he
    exact ⟨by omega, fun v hv => by obtain ⟨_, _, q⟩ := hvs v hv; omega⟩
  · obtain ⟨e, rfl⟩ : ∃ e, deep = e + 1 := ⟨deep - 1, by omega⟩
    obtain ⟨x, mx2, x0, x1⟩ := mix_x (n := n - 1) (by omega) c 9829 4 (by omega) (by omega)
    have hm1 : ((e + 1 : Nat) : Int) - 1 = (e : Nat) := by omega
    suffices h : W (callF GC XC M n 10 [.int c, .int ((e + 1 : Nat) : Int)]) (fun d => ∃ v : Val, d = v.d ∧ Val.ok 3 v ∧ v.dp ≤ e + 1) by
      obtain ⟨d, h1, v, rfl, q⟩ := h
      exact ⟨v, h1, q⟩
    refine W_call (fn := f__law_value) (by omega) rfl rfl ?_
    unfold f__law_value
    simp! only [hd0, m2, hsum, mx, mx2, rng_c x0 (show x ≤ 1000 by omega), rng0]
    refine W_for (i := fun k : Nat => PyData.int (k : Int)) (l := List.range x.toNat) (fun p ρ => ∃ (l : List (Str × Val)) (o1 : Option Sl), ρ = [some (.dat (.int c)), some (.dat (.int ((e + 1 : Nat) : Int))), some (.dat (.int 6)), some (.own (.dict (encJ Val.d l))), o1, none] ∧ (l.map (·.1)).Nodup ∧ l.length ≤ p.length ∧ ∀ q ∈ l, isNameS q.1 = true ∧ Val.ok 3 q.2 ∧ q.2.dp ≤ e) ⟨[], none, rfl, List.nodup_nil, Nat.le_refl _, fun q hq => by cases hq⟩ ?_ ?_
    · rintro p k q ρ hl ⟨l, o1, rfl, nd, hlen, hq⟩
      obtain ⟨hk, hk2⟩ := range_split hl
      refine ⟨_, rfl, ?_⟩
      obtain ⟨v, h1, h2, h3⟩ := ih e rfl (c + 13 * (k : Int) + 2) (n - 1) (by omega)
      have nm := name_c (n := n - 1) (by omega) (c + 11 * (k : Int))
      have sz := encJ_size Val.d (l := l) (by omega)
      unfold bdF
      simp! only [mul_k (k := 11) (by decide), mul_k (k := 13) (by decide), hm1, nm, h1, sz]
      refine ⟨putA l (nameS (c + 11 * (k : Int))) v, _, by rw [← put_encJ], putA_nodup nd _ _, Nat.le_trans (putA_len _ _ _) (by simp; omega), fun q hq' => ?_⟩
      rcases putA_mem hq' with h | rfl
      · exact hq q h.1
      · exact ⟨name_is _, h2, h3⟩
    · rintro ρ ⟨l, o1, rfl, nd, hlen, hq⟩
      rw [List.length_range] at hlen
      simp! only [srt_encJ Val.d (show l.length < 64 by omega)]
      rw [lc_map (i := fun p : Str × Val => PyData.str p.1) (g := pairD)]
      · simp! only [W_ok]
        refine ⟨.record (sortA l), by rw [vd_rec], .record ⟨sortA_rise nd, fun x hx => ?_⟩ (by rw [sortA_len]; omega) fun p hp => (hq p (sortA_mem hp).1).2.1, vdp_le (fun us he => by cases he) (fun ps he => ?_)⟩
        · obtain ⟨p, hp, rfl⟩ := List.mem_map.mp hx
          exact (hq p (sortA_mem hp).1).1
        · cases he
          exact ⟨by omega, fun p hp => by have := (hq p (sortA_mem hp).1).2.2; omega⟩
      · intro p hp
        unfold lcF pairD
        simp! only [idx_encJ, (sortA_mem hp).2]
theorem law_value : ∀ deep : Nat, ValueAt deep := by
  intro deep
  induction deep with
  | zero => exact law_value_of (fun e h => by omega) 5 rfl
  | succ d ih => exact law_value_of (fun e h => by cases h; exact ih) 7 (by simp)
end G7

namespace G7
open PySem
local macro_rules | `(tactic| dsimp! only [$xs,*]) => `(tactic| simp only [e_var, e_glob, e_kI, e_kS, e_kB, e_kN, e_tp, e_ls, e_dn, e_op, e_ng, e_cmp, e_chn, e_an, e_orr, e_on, e_nt, e_it, e_ix, e_sl, e_cl, e_bt, e_is, e_lcm, x_nil, x_cons, sq_n, sq_r, sq_c, sq_b, x_asg, x_asgT, x_ret, x_retN, x_if, x_for, x_whl, x_app, x_ext, x_dput, x_pass, x_cont, x_brk, evalA, evalAB, evalC, evalI, bnd, bor, view, read, Env.at, Env.put, b_ok, b_bad, b_exc, b_ite, of_some, of_none, om_some, om_none, ob_some, calm_k, tr_b, tr_n, tr_i, tr_l, tr_t, fl_ret, fl_next, fl_ite, len_s, len_l, len_t, tup_l, int_b, initE, List.map_cons, List.map_nil, List.length_cons, List.length_nil, List.cons_append, List.nil_append, List.replicate, frzE, esc, escA, escB, escAB, escI, escC, op2, add_i, sub_i, cmpD, lt_i, lt_s, is_n, is_b, eq_s, eq_i, tup_at, lst_at, str_at, Sl.d, fresh, isCont, Bool.false_and, Bool.and_false, Bool.true_and, Bool.and_true, if_true, if_false, ite_true, ite_false, Nat.reduceAdd, Nat.reduceSub, bindT, bindT.bindTs, wipeE, Tg.slots, List.any_cons, List.any_nil, isTy, escJ, Bool.or_false, Bool.false_or, Bool.or_true, Bool.true_or, Bool.not_true, Bool.not_false, Bool.false_eq_true, seqD, decide_true, decide_false, nc_lit, eq_self, Int.reduceEq, Nat.reduceEqDiff, and_self, and_true, true_and, $xs,*])
local macro_rules | `(tactic| simp! only [$xs,*]) => `(tactic| simp -implicitDefEqProofs only [e_var, e_glob, e_kI, e_kS, e_kB, e_kN, e_tp, e_ls, e_dn, e_op, e_ng, e_cmp, e_chn, e_an, e_orr, e_on, e_nt, e_it, e_ix, e_sl, e_cl, e_bt, e_is, e_lcm, x_nil, x_cons, sq_n, sq_r, sq_c, sq_b, x_asg, x_asgT, x_ret, x_retN, x_if, x_for, x_whl, x_app, x_ext, x_dput, x_pass, x_cont, x_brk, evalA, evalAB, evalC, evalI, b_ok, b_bad, b_exc, b_ite, of_some, of_none, om_some, om_none, ob_some, calm_k, tr_b, tr_n, tr_i, tr_l, tr_t, fl_ret, fl_next, fl_ite, len_s, len_l, len_t, tup_l, int_b, initE, List.map_cons, List.map_nil, List.length_cons, List.length_nil, List.cons_append, List.nil_append, List.replicate, esc, escA, escB, escAB, escI, escC, op2, add_i, sub_i, cmpD, lt_i, lt_s, is_n, is_b, eq_s, eq_i, tup_at, lst_at, str_at, Sl.d, fresh, isCont, Bool.false_and, Bool.and_false, Bool.true_and, Bool.and_true, if_true, if_false, ite_true, ite_false, Nat.reduceAdd, Nat.reduceSub, Tg.slots, List.any_cons, List.any_nil, isTy, escJ, Bool.or_false, Bool.false_or, Bool.or_true, Bool.true_or, Bool.not_true, Bool.not_false, Bool.false_eq_true, decide_true, decide_false, nc_lit, eq_self, Int.reduceEq, Nat.reduceEqDiff, and_self, and_true, true_and, ofS_inj, String.reduceEq, W_ok, W_ite, b_assoc, bk_r, bk_n, tn_n, tn_c, tn_b, tn_r, decide_eq_true_eq, Bool.not_eq_true', decide_eq_false_iff_not, Nat.add_sub_cancel, List.append_nil, List.not_mem_nil, not_true_eq_false, not_false_eq_true, ownK, ownL, dKey, Bool.true_eq_false, List.mem_cons, or_self, or_false, false_or, List.filter_cons, List.filter_nil, List.contains_cons, List.contains_nil, Nat.reduceBEq, Nat.reduceLeDiff, Int.reduceLT, Int.reduceLE, Int.reduceNeg, Nat.zero_add, bor_var, bnd_kN, bndI, view_s, view_d, view_o, view_l, read_s, read_d, read_o, at_s, at_0, put_s, put_0, frz_nil, frz_cons, frz1_s, frz1_o, frz1_d, frz1_l, frz1_n, bt_nm, bt_tp, bts_nil, bts_cons, wipe_nil, wipe_cons, seq_l, seq_t, seq_s, bq_tt, bq_tf, bq_ft, bq_ff, ad_t, ad_l, ai0, ai1, ai2, ai3, ng_i, int_i, mx_i, mn_i, bor_glob, bor_kI, bor_kS, bor_kB, bor_kN, bor_nil, bor_cons, bor_tup, bor_lst, bor_dnew, bor_dct1, bor_op, bor_neg, bor_cmp, bor_chain, bor_and, bor_or, bor_one, bor_not, bor_ite, bor_idx, bor_slc, bor_call, bor_bt, bor_isi, bor_lc, bnd_glob, bnd_kI, bnd_kS, bnd_kB, bnd_nil, bnd_cons, bnd_tup, bnd_lst, bnd_dnew, bnd_dct1, bnd_op, bnd_neg, bnd_cmp, bnd_chain, bnd_and, bnd_or, bnd_one, bnd_not, bnd_ite, bnd_idx, bnd_slc, bnd_call, bnd_bt, bnd_isi, bnd_lc, bnd_var, $xs,*])
/-! ### the law's plain walk: of a kind or not -/
/-- a filter by the part's word -/
theorem filt_find {k : Kind} (ho : Ordd k) (pl : Nat) : k.filter (fun p => decide (p.place = pl)) = (findP k pl).toList := by
  unfold findP
  induction k with
  | nil => rfl
  | cons p k ih =>
    obtain ⟨h1, h2⟩ := List.pairwise_cons.mp ho
    by_cases h : p.place = pl
    · rw [List.filter_cons_of_pos (by simp [h]), List.find?_cons_of_pos (by simp [h])]
      have : k.filter (fun p => decide (p.place = pl)) = [] := List.filter_eq_nil_iff.mpr fun q hq => by
        have := h1 q hq
        simp
        omega
      rw [this]
      rfl
    · rw [List.filter_cons_of_neg (by simp [h]), List.find?_cons_of_neg (by simp [h]), ih h2]
/-- a pair by the fields -/
def pairOk (fs : List Field) (op : Bool) (p : Str × Val) : Bool := match getA fs p.1 with
  | some f => isOf p.2 f.1
  | none => op
theorem fits_rec2 (ps : List (Str × Val)) (fs : List Field) (op : Bool) : (Val.record ps).fits (.record fs op) = ((fs.all fun f => !f.2.2 || decide (f.1 ∈ ps.map (·.1))) && ps.all (pairOk fs op)) := fits_rec ps fs op
theorem in_strL (x : Str) (l : List Str) : inD (.str x) (.list (l.map .str)) = some (decide (x ∈ l)) := by
  show (if noD (PyData.str x) = true ∧ noDs (l.map .str) = true ∧ (PyData.str x).depth ≤ 64 then some ((l.map PyData.str).any fun y => PyData.eqv y (.str x)) else none) = _
  rw [if_pos ⟨by unfold noD; rfl, noDs_of fun y hy => by obtain ⟨p, _, rfl⟩ := List.mem_map.mp hy; unfold noD; rfl, by simp [PyData.depth]⟩]
  congr 1
  rw [Bool.eq_iff_iff, List.any_map, List.any_eq_true, decide_eq_true_iff]
  constructor
  · rintro ⟨p, hp, e⟩
    have : p = x := by simpa [PyData.eqv] using e
    exact this ▸ hp
  · intro hp
    exact ⟨x, hp, by simp [PyData.eqv]⟩
theorem in_strT (x : Str) (l : List Str) : inD (.str x) (.tuple (l.map .str)) = some (decide (x ∈ l)) := in_strL x l
/-- what the law's own walk tells -/
def OfAt (d : Nat) : Prop := ∀ (k : Kind) (v : Val) (w n : Nat), w ≤ 31 → v.dp < d → Kok w k → Val.ok w v → 2 * d ≤ n → callF GC XC M n 13 [v.d, kd k] = .ok (.bool (isOf v k))
theorem law_fits_c {d : Nat} (ih : OfAt d) (fs : List Field) (ps : List (Str × Val)) (op : Bool) (w n : Nat) (hw2 : w ≤ 31) (hd : (Val.record ps).dp < d + 1) (hk : Part.ok w (.record fs op)) (hv : Val.ok w (.record ps)) (hn : 2 * d + 1 ≤ n) :
    callF GC XC M n 14 [.tuple (ps.map pairD), (Part.record fs op).d] = .ok (.bool ((Val.record ps).fits (.record fs op))) := by
  obtain ⟨hn1, hfl, hkf⟩ := Kok.field hk
  cases hv with
  | record hpn hl hvs =>
    have ndp := hpn.1.nodup
    have ndf := hn1.1.nodup
    refine C_eq (fn := f__law_fits) (by omega) rfl rfl ?_
    unfold f__law_fits
    rw [pd_rec, fits_rec2]
    have l1 : ∀ f : D → Res (Option D), (∀ x ∈ fs, f (fieldT x) = .ok (some (.tuple [.str x.1, kd x.2.1]))) → lcLoop f (fs.map fieldT) = .ok (fs.map fun x => .tuple [.str x.1, kd x.2.1]) := fun f h => lc_map h
    simp! only [W_ok]
    rw [l1 _ (fun x hx => by unfold lcF fieldT; simp! only [W_ok])]
    have dk : btD .dict [.list (fs.map fun x => PyData.tuple [.str x.1, kd x.2.1])] = some (.dict (encJ (fun f : Kind × Bool => kd f.1) fs)) := dict_encJ (fun f : Kind × Bool => kd f.1) ndf
    simp! only [dk]
    rw [lc_map (i := pairD) (g := fun p => PyData.str p.1) (l := ps) (fun p hp => by unfold lcF pairD; simp! only [W_ok])]
    simp! only [W_ok]
    have inl : ∀ x : Str, inD (.str x) (.list (ps.map fun p => PyData.str p.1)) = some (decide (x ∈ ps.map (·.1))) := fun x => by
      have := in_strL x (ps.map (·.1))
      rw [List.map_map] at this
      exact this
    rw [lc_flt (i := fieldT) (g := fun _ => PyData.int 1) (p := fun f : Field => f.2.2 && !decide (f.1 ∈ ps.map (·.1))) (l := fs) (fun f hf => by
      unfold lcF fieldT
      cases hm : f.2.2 with
      | true =>
        by_cases hi : f.1 ∈ ps.map (·.1) <;> simp! only [inl, hi]
      | false => simp! only [W_ok])]
    have hempty : ((fs.filter fun f : Field => f.2.2 && !decide (f.1 ∈ ps.map (·.1))).map fun _ => PyData.int 1).isEmpty = (fs.all fun f => !f.2.2 || decide (f.1 ∈ ps.map (·.1))) := by
      rw [List.isEmpty_map, Bool.eq_iff_iff, List.isEmpty_iff, List.filter_eq_nil_iff, List.all_eq_true]
      refine forall_congr' fun f => forall_congr' fun hf => ?_
      cases f.2.2 <;> simp
    cases hA : (fs.all fun f => !f.2.2 || decide (f.1 ∈ ps.map (·.1))) with
    | false => simp! only [hempty, hA]
    | true =>
      simp! only [hempty, hA]
      refine W_for (i := pairD) (l := ps) (fun p ρ => ∃ o4 o5 o6 o7, ρ = [some (.dat (.tuple (ps.map pairD))), some (.dat (.tuple [.str "record", .tuple (fs.map fieldT), .bool op])), some (.own (.dict (encJ (fun f : Kind × Bool => kd f.1) fs))), some (.own (.list (ps.map fun p => PyData.str p.1))), o4, o5, o6, o7] ∧ ∀ x ∈ p, pairOk fs op x = true) ⟨_, _, _, _, rfl, fun x hx => by cases hx⟩ ?_ ?_
      · rintro p x q ρ hl2 ⟨o4, o5, o6, o7, rfl, hp⟩
        have hx : x ∈ ps := by rw [hl2]; simp
        have more : pairOk fs op x = true → ∀ y ∈ p ++ [x], pairOk fs op y = true := fun h y hy => by
          rcases List.mem_append.mp hy with hy | hy
          · exact hp y hy
          · simp at hy; subst hy; exact h
        have less : pairOk fs op x = false → ps.all (pairOk fs op) = false := fun h => by
          rw [List.all_eq_false]
          exact ⟨x, hx, by rw [h]; simp⟩
        refine ⟨_, rfl, ?_⟩
        unfold bdF
        cases hg : getA fs x.1 with
        | none =>
          have nf : x.1 ∉ fs.map (·.1) := getA_none.mp hg
          have po : pairOk fs op x = op := by unfold pairOk; rw [hg]
          rw [po] at more less
          cases op with
          | true =>
            simp! only [in_encJ, nf]
            exact ⟨_, _, _, _, rfl, more rfl⟩
          | false =>
            simp! only [in_encJ, nf, less rfl]
        | some f =>
          have hf := getA_some hg
          have nf : x.1 ∈ fs.map (·.1) := List.mem_map.mpr ⟨_, hf, rfl⟩
          have hpd := vdp_rec_mem hx
          have hc := ih f.1 x.2 w (n - 1) hw2 (by omega) (hkf _ hf) (hvs _ hx) (by omega)
          have po : pairOk fs op x = isOf x.2 f.1 := by unfold pairOk; rw [hg]
          rw [po] at more less
          cases hi : isOf x.2 f.1 with
          | true =>
            rw [hi] at hc
            simp! only [in_encJ, nf, idx_encJ, hg, hc]
            exact ⟨_, _, _, _, rfl, more hi⟩
          | false =>
            rw [hi] at hc
            simp! only [in_encJ, nf, idx_encJ, hg, hc, less hi]
      · rintro ρ ⟨o4, o5, o6, o7, rfl, hp⟩
        simp! only [W_ok]
        congr 1
        symm
        exact List.all_eq_true.mpr hp
theorem law_of_c : ∀ d : Nat, OfAt d := by
  intro d
  induction d with
  | zero => intro k v w n _ h; omega
  | succ d ih =>
    intro k v w n hw2 hd hk hv hn
    refine C_eq (fn := f__law_of) (by omega) rfl rfl ?_
    unfold f__law_of
    have so : callF GC XC M (n - 1) 12 [v.d] = .ok (.str (wordAt v.place)) := (sort_of_c (by omega) v).2
    have bt := fun i lo hi => (between_c (n := n - 1) (by omega) i lo hi).2
    have bs : ∀ (i lo : Int) (hi : Option Int), callF GC XC M (n - 1) 11 [.int i, .int lo, optD hi] = _ := fun i lo hi => bt i (some lo) hi
    simp! only [so, kd]
    rw [lc_flt (i := Part.d) (g := Part.d) (p := fun p : Part => decide (p.place = v.place)) (l := k) (fun p hp => by
      unfold lcF
      obtain ⟨r, er⟩ := part_first p
      rw [er]
      simp! only [wordAt_inj (pplace_le p) (vplace_le v)])]
    rw [filt_find hk.ord]
    cases hf : findP k v.place with
    | none =>
      have ei : isOf v k = false := by unfold isOf; rw [hf]
      simp! only [Option.toList, List.isEmpty_nil, List.isEmpty, ei]
    | some p =>
      obtain ⟨hpk, hpl2⟩ := findP_some hf
      have hpo := hk.parts p hpk
      have ei : isOf v k = v.fits p := by unfold isOf; rw [hf]
      rw [ei]
      cases v with
      | whole i => cases p <;> first | (cases hpl2; done) | (rw [Val.fits, Val.d]; simp! only [Option.toList, List.isEmpty, Val.place, wordAt, Part.d, bt])
      | text i => cases p <;> first | (cases hpl2; done) | (rw [Val.fits, Val.d]; simp! only [Option.toList, List.isEmpty, Val.place, wordAt, Part.d, bs])
      | truth i =>
        cases p with
        | truth t => rw [Val.fits, Val.d]; cases t <;> simp! only [Option.toList, List.isEmpty, Val.place, wordAt, Part.d, optB, trOk, eq_b, Bool.beq_comm]
        | _ => cases hpl2
      | nothing => cases p <;> first | (cases hpl2; done) | (rw [Val.fits, Val.d]; simp! only [Option.toList, List.isEmpty, Val.place, wordAt, Part.d])
      | row vs =>
        cases p with
        | row k' lo hi =>
          obtain ⟨hk', _⟩ := Kok.row hpo
          cases hv with
          | row hl hvs =>
            rw [fits_row, vd_row]
            simp! only [Option.toList, List.isEmpty, Val.place, wordAt, pd_row, List.length_map, bs]
            cases hb : btw vs.length (some lo) hi with
            | false => simp! only [W_ok]
            | true =>
              rw [lc_map (i := Val.d) (g := fun v => PyData.bool (isOf v k')) (l := vs) (fun v hv => by
                unfold lcF
                simp! only [ih k' v w (n - 1) hw2 (by have := vdp_row_mem hv; omega) hk' (hvs v hv) (by omega)])]
              simp! only [W_ok]
              rw [all_map]
              simp! only [W_ok]
        | _ => cases hpl2
      | record ps =>
        cases p with
        | record fs op =>
          have fc := law_fits_c ih fs ps op w (n - 1) hw2 hd hpo hv (by omega)
          rw [pd_rec] at fc
          rw [vd_rec]
          simp! only [Option.toList, List.isEmpty, Val.place, wordAt, pd_rec, fc]
        | _ => cases hpl2
end G7

namespace G7
open PySem
local macro_rules | `(tactic| dsimp! only [$xs,*]) => `(tactic| simp only [e_var, e_glob, e_kI, e_kS, e_kB, e_kN, e_tp, e_ls, e_dn, e_op, e_ng, e_cmp, e_chn, e_an, e_orr, e_on, e_nt, e_it, e_ix, e_sl, e_cl, e_bt, e_is, e_lcm, x_nil, x_cons, sq_n, sq_r, sq_c, sq_b, x_asg, x_asgT, x_ret, x_retN, x_if, x_for, x_whl, x_app, x_ext, x_dput, x_pass, x_cont, x_brk, evalA, evalAB, evalC, evalI, bnd, bor, view, read, Env.at, Env.put, b_ok, b_bad, b_exc, b_ite, of_some, of_none, om_some, om_none, ob_some, calm_k, tr_b, tr_n, tr_i, tr_l, tr_t, fl_ret, fl_next, fl_ite, len_s, len_l, len_t, tup_l, int_b, initE, List.map_cons, List.map_nil, List.length_cons, List.length_nil, List.cons_append, List.nil_append, List.replicate, frzE, esc, escA, escB, escAB, escI, escC, op2, add_i, sub_i, cmpD, lt_i, lt_s, is_n, is_b, eq_s, eq_i, tup_at, lst_at, str_at, Sl.d, fresh, isCont, Bool.false_and, Bool.and_false, Bool.true_and, Bool.and_true, if_true, if_false, ite_true, ite_false, Nat.reduceAdd, Nat.reduceSub, bindT, bindT.bindTs, wipeE, Tg.slots, List.any_cons, List.any_nil, isTy, escJ, Bool.or_false, Bool.false_or, Bool.or_true, Bool.true_or, Bool.not_true, Bool.not_false, Bool.false_eq_true, seqD, decide_true, decide_false, nc_lit, eq_self, Int.reduceEq, Nat.reduceEqDiff, and_self, and_true, true_and, $xs,*])
local macro_rules | `(tactic| simp! only [$xs,*]) => `(tactic| simp -implicitDefEqProofs only [e_var, e_glob, e_kI, e_kS, e_kB, e_kN, e_tp, e_ls, e_dn, e_op, e_ng, e_cmp, e_chn, e_an, e_orr, e_on, e_nt, e_it, e_ix, e_sl, e_cl, e_bt, e_is, e_lcm, x_nil, x_cons, sq_n, sq_r, sq_c, sq_b, x_asg, x_asgT, x_ret, x_retN, x_if, x_for, x_whl, x_app, x_ext, x_dput, x_pass, x_cont, x_brk, evalA, evalAB, evalC, evalI, b_ok, b_bad, b_exc, b_ite, of_some, of_none, om_some, om_none, ob_some, calm_k, tr_b, tr_n, tr_i, tr_l, tr_t, fl_ret, fl_next, fl_ite, len_s, len_l, len_t, tup_l, int_b, initE, List.map_cons, List.map_nil, List.length_cons, List.length_nil, List.cons_append, List.nil_append, List.replicate, esc, escA, escB, escAB, escI, escC, op2, add_i, sub_i, cmpD, lt_i, lt_s, is_n, is_b, eq_s, eq_i, tup_at, lst_at, str_at, Sl.d, fresh, isCont, Bool.false_and, Bool.and_false, Bool.true_and, Bool.and_true, if_true, if_false, ite_true, ite_false, Nat.reduceAdd, Nat.reduceSub, Tg.slots, List.any_cons, List.any_nil, isTy, escJ, Bool.or_false, Bool.false_or, Bool.or_true, Bool.true_or, Bool.not_true, Bool.not_false, Bool.false_eq_true, decide_true, decide_false, nc_lit, eq_self, Int.reduceEq, Nat.reduceEqDiff, and_self, and_true, true_and, ofS_inj, String.reduceEq, W_ok, W_ite, b_assoc, bk_r, bk_n, tn_n, tn_c, tn_b, tn_r, decide_eq_true_eq, Bool.not_eq_true', decide_eq_false_iff_not, Nat.add_sub_cancel, List.append_nil, List.not_mem_nil, not_true_eq_false, not_false_eq_true, ownK, ownL, dKey, Bool.true_eq_false, List.mem_cons, or_self, or_false, false_or, List.filter_cons, List.filter_nil, List.contains_cons, List.contains_nil, Nat.reduceBEq, Nat.reduceLeDiff, Int.reduceLT, Int.reduceLE, Int.reduceNeg, Nat.zero_add, bor_var, bnd_kN, bndI, view_s, view_d, view_o, view_l, read_s, read_d, read_o, at_s, at_0, put_s, put_0, frz_nil, frz_cons, frz1_s, frz1_o, frz1_d, frz1_l, frz1_n, bt_nm, bt_tp, bts_nil, bts_cons, wipe_nil, wipe_cons, seq_l, seq_t, seq_s, bq_tt, bq_tf, bq_ft, bq_ff, ad_t, ad_l, ai0, ai1, ai2, ai3, ng_i, int_i, mx_i, mn_i, bor_glob, bor_kI, bor_kS, bor_kB, bor_kN, bor_nil, bor_cons, bor_tup, bor_lst, bor_dnew, bor_dct1, bor_op, bor_neg, bor_cmp, bor_chain, bor_and, bor_or, bor_one, bor_not, bor_ite, bor_idx, bor_slc, bor_call, bor_bt, bor_isi, bor_lc, bnd_glob, bnd_kI, bnd_kS, bnd_kB, bnd_nil, bnd_cons, bnd_tup, bnd_lst, bnd_dnew, bnd_dct1, bnd_op, bnd_neg, bnd_cmp, bnd_chain, bnd_and, bnd_or, bnd_one, bnd_not, bnd_ite, bnd_idx, bnd_slc, bnd_call, bnd_bt, bnd_isi, bnd_lc, bnd_var, $xs,*])
/-! ### empty kinds -/
def Part.emp : Part → Bool
  | .row k lo _ => decide (0 < lo) && (k.map fun p => p.emp).all id
  | .record fs _ => (fs.map fun f => f.2.2 && (f.2.1.map fun p => p.emp).all id).any id
  | .whole _ _ => false
  | .text _ _ => false
  | .truth _ => false
  | .nothing => false
termination_by p => sizeOf p
decreasing_by
  all_goals simp_wf
  · have := List.sizeOf_lt_of_mem ‹_›; omega
  · rename_i h1 h2
    have a := List.sizeOf_lt_of_mem h2
    have b := List.sizeOf_lt_of_mem h1
    obtain ⟨x, y, z⟩ := f
    simp at a b ⊢
    omega
def kemp (k : Kind) : Bool := k.all Part.emp
theorem emp_row (k : Kind) (lo : Int) (hi : Option Int) : (Part.row k lo hi).emp = (decide (0 < lo) && kemp k) := by
  rw [Part.emp, List.all_map]
  rfl
theorem emp_rec (fs : List Field) (op : Bool) : (Part.record fs op).emp = fs.any fun f => f.2.2 && kemp f.2.1 := by
  rw [Part.emp, List.any_map]
  congr 1
  funext f
  show (f.2.2 && _) = _
  rw [List.all_map]
  rfl
theorem emp_flat {p : Part} (h : p.place < 4) : p.emp = false := by
  cases p <;> first | (simp [Part.place] at h; done) | (rw [Part.emp])
theorem any_map {α : Type} (b : α → Bool) (xs : List α) : btD .any [.list (xs.map fun x => .bool (b x))] = some (.bool (xs.any b)) := by
  rw [any_l, boolsD_map]
  show some (PyData.bool ((xs.map b).any id)) = _
  rw [List.any_map]
  rfl
def EmpAt (d : Nat) : Prop := ∀ (k : Kind) (n : Nat), kdp k < d → 2 * d ≤ n → callF GC XC M n 37 [kd k] = .ok (.bool (kemp k)) ∧ callF GC XC M n 51 [kd k] = .ok (.bool (kemp k))
theorem emp_part_c {d : Nat} (ih : EmpAt d) (p : Part) (n : Nat) (hd : p.dp ≤ d) (hn : 2 * d + 1 ≤ n) : callF GC XC M n 38 [p.d] = .ok (.bool p.emp) ∧ callF GC XC M n 50 [p.d] = .ok (.bool p.emp) := by
  by_cases h4 : p.place < 4
  · obtain ⟨r, er⟩ := part_first p
    have w4 : (wordAt p.place = "row") = False := by rw [show ("row" : Str) = wordAt 4 from rfl, wordAt_inj (pplace_le p) (by omega)]; simp; omega
    have w5 : (wordAt p.place = "record") = False := by rw [show ("record" : Str) = wordAt 5 from rfl, wordAt_inj (pplace_le p) (by omega)]; simp; omega
    rw [emp_flat h4, er]
    constructor
    · refine C_eq (fn := f__law_is_empty_part) (by omega) rfl rfl ?_
      unfold f__law_is_empty_part
      simp! only [w4, w5]
    · refine C_eq (fn := f_is_empty_part) (by omega) rfl rfl ?_
      unfold f_is_empty_part
      simp! only [w4, w5]
  · cases p with
    | row k lo hi =>
      rw [pdp_row] at hd
      obtain ⟨i1, i2⟩ := ih k (n - 1) (by omega) (by omega)
      rw [emp_row, pd_row]
      constructor
      · refine C_eq (fn := f__law_is_empty_part) (by omega) rfl rfl ?_
        unfold f__law_is_empty_part
        by_cases h : 0 < lo <;> simp! only [h, i1]
      · refine C_eq (fn := f_is_empty_part) (by omega) rfl rfl ?_
        unfold f_is_empty_part
        by_cases h : 0 < lo <;> simp! only [h, i2]
    | record fs op =>
      rw [emp_rec, pd_rec]
      have sub : ∀ f ∈ fs, callF GC XC M (n - 1) 37 [kd f.2.1] = .ok (.bool (kemp f.2.1)) ∧ callF GC XC M (n - 1) 51 [kd f.2.1] = .ok (.bool (kemp f.2.1)) := fun f hf => ih f.2.1 (n - 1) (by have := pdp_field (op := op) hf; omega) (by omega)
      constructor
      · refine C_eq (fn := f__law_is_empty_part) (by omega) rfl rfl ?_
        unfold f__law_is_empty_part
        simp! only [W_ok]
        rw [lc_map (i := fieldT) (g := fun f => PyData.bool (f.2.2 && kemp f.2.1)) (l := fs) (fun f hf => by
          unfold lcF fieldT
          cases hm : f.2.2 <;> simp! only [(sub f hf).1])]
        simp! only [W_ok]
        rw [any_map]
        simp! only [W_ok]
      · refine C_eq (fn := f_is_empty_part) (by omega) rfl rfl ?_
        unfold f_is_empty_part
        simp! only [W_ok]
        rw [lc_map (i := fieldT) (g := fun f => PyData.bool (f.2.2 && kemp f.2.1)) (l := fs) (fun f hf => by
          unfold lcF fieldT
          cases hm : f.2.2 <;> simp! only [(sub f hf).2])]
        simp! only [W_ok]
        rw [any_map]
        simp! only [W_ok]
    | _ => simp [Part.place] at h4
theorem emp_c : ∀ d : Nat, EmpAt d := by
  intro d
  induction d with
  | zero => intro k n h; omega
  | succ d ih =>
    intro k n hd hn
    have sub : ∀ p ∈ k, _ := fun p hp => emp_part_c ih p (n - 1) (by have := kdp_mem hp; omega) (by omega)
    constructor
    · refine C_eq (fn := f__law_is_empty) (by omega) rfl rfl ?_
      unfold f__law_is_empty kd
      simp! only [W_ok]
      rw [lc_map (i := Part.d) (g := fun p => PyData.bool p.emp) (l := k) (fun p hp => by unfold lcF; simp! only [(sub p hp).1])]
      simp! only [W_ok]
      rw [all_map]
      simp! only [W_ok]
      rfl
    · refine C_eq (fn := f_is_empty) (by omega) rfl rfl ?_
      unfold f_is_empty kd
      simp! only [W_ok]
      rw [lc_map (i := Part.d) (g := fun p => PyData.bool p.emp) (l := k) (fun p hp => by unfold lcF; simp! only [(sub p hp).2])]
      simp! only [W_ok]
      rw [all_map]
      simp! only [W_ok]
      rfl
theorem law_is_empty_c {n : Nat} (k : Kind) (hn : 2 * kdp k + 2 ≤ n) : callF GC XC M n 37 [kd k] = .ok (.bool (kemp k)) := (emp_c (kdp k + 1) k n (by omega) (by omega)).1
theorem is_empty_c {n : Nat} (k : Kind) (hn : 2 * kdp k + 2 ≤ n) : callF GC XC M n 51 [kd k] = .ok (.bool (kemp k)) := (emp_c (kdp k + 1) k n (by omega) (by omega)).2
theorem is_empty_part_c {n : Nat} (p : Part) (hn : 2 * p.dp + 1 ≤ n) : callF GC XC M n 50 [p.d] = .ok (.bool p.emp) := (emp_part_c (emp_c p.dp) p n (Nat.le_refl _) hn).2
/-! ### values made of a kind -/
theorem law_many_c {n : Nat} (hn : 2 ≤ n) {lo : Int} {hi : Option Int} (h : cntOk lo hi) (c : Int) : ∃ m : Nat, callF GC XC M n 40 [.int lo, optD hi, .int c] = .ok (.int (m : Int)) ∧ m ≤ 11 ∧ btw m (some lo) hi = true := by
  cases hi with
  | none =>
    obtain ⟨x, mx, x0, x1⟩ := mix_x (n := n - 1) (by omega) c 9803 (lo + 2 - lo + 1) (by omega) (by omega)
    have := h.1
    have := h.2
    refine ⟨(lo + x).toNat, C_eq (fn := f__law_many) (by omega) rfl rfl ?_, by omega, by simp [btw]; omega⟩
    unfold f__law_many
    have e : (((lo + x).toNat : Nat) : Int) = lo + x := by omega
    rw [e]
    simp! only [optD, mx]
  | some b =>
    obtain ⟨h1, h2, h3⟩ := h
    obtain ⟨x, mx, x0, x1⟩ := mix_x (n := n - 1) (by omega) c 9803 (b - lo + 1) (by omega) (by omega)
    refine ⟨(lo + x).toNat, C_eq (fn := f__law_many) (by omega) rfl rfl ?_, by omega, by simp [btw]; omega⟩
    unfold f__law_many
    have e : (((lo + x).toNat : Nat) : Int) = lo + x := by omega
    rw [e]
    simp! only [optD, mx]
end G7

namespace G7
open PySem
local macro_rules | `(tactic| dsimp! only [$xs,*]) => `(tactic| simp only [e_var, e_glob, e_kI, e_kS, e_kB, e_kN, e_tp, e_ls, e_dn, e_op, e_ng, e_cmp, e_chn, e_an, e_orr, e_on, e_nt, e_it, e_ix, e_sl, e_cl, e_bt, e_is, e_lcm, x_nil, x_cons, sq_n, sq_r, sq_c, sq_b, x_asg, x_asgT, x_ret, x_retN, x_if, x_for, x_whl, x_app, x_ext, x_dput, x_pass, x_cont, x_brk, evalA, evalAB, evalC, evalI, bnd, bor, view, read, Env.at, Env.put, b_ok, b_bad, b_exc, b_ite, of_some, of_none, om_some, om_none, ob_some, calm_k, tr_b, tr_n, tr_i, tr_l, tr_t, fl_ret, fl_next, fl_ite, len_s, len_l, len_t, tup_l, int_b, initE, List.map_cons, List.map_nil, List.length_cons, List.length_nil, List.cons_append, List.nil_append, List.replicate, frzE, esc, escA, escB, escAB, escI, escC, op2, add_i, sub_i, cmpD, lt_i, lt_s, is_n, is_b, eq_s, eq_i, tup_at, lst_at, str_at, Sl.d, fresh, isCont, Bool.false_and, Bool.and_false, Bool.true_and, Bool.and_true, if_true, if_false, ite_true, ite_false, Nat.reduceAdd, Nat.reduceSub, bindT, bindT.bindTs, wipeE, Tg.slots, List.any_cons, List.any_nil, isTy, escJ, Bool.or_false, Bool.false_or, Bool.or_true, Bool.true_or, Bool.not_true, Bool.not_false, Bool.false_eq_true, seqD, decide_true, decide_false, nc_lit, eq_self, Int.reduceEq, Nat.reduceEqDiff, and_self, and_true, true_and, $xs,*])
local macro_rules | `(tactic| simp! only [$xs,*]) => `(tactic| simp -implicitDefEqProofs only [e_var, e_glob, e_kI, e_kS, e_kB, e_kN, e_tp, e_ls, e_dn, e_op, e_ng, e_cmp, e_chn, e_an, e_orr, e_on, e_nt, e_it, e_ix, e_sl, e_cl, e_bt, e_is, e_lcm, x_nil, x_cons, sq_n, sq_r, sq_c, sq_b, x_asg, x_asgT, x_ret, x_retN, x_if, x_for, x_whl, x_app, x_ext, x_dput, x_pass, x_cont, x_brk, evalA, evalAB, evalC, evalI, b_ok, b_bad, b_exc, b_ite, of_some, of_none, om_some, om_none, ob_some, calm_k, tr_b, tr_n, tr_i, tr_l, tr_t, fl_ret, fl_next, fl_ite, len_s, len_l, len_t, tup_l, int_b, initE, List.map_cons, List.map_nil, List.length_cons, List.length_nil, List.cons_append, List.nil_append, List.replicate, esc, escA, escB, escAB, escI, escC, op2, add_i, sub_i, cmpD, lt_i, lt_s, is_n, is_b, eq_s, eq_i, tup_at, lst_at, str_at, Sl.d, fresh, isCont, Bool.false_and, Bool.and_false, Bool.true_and, Bool.and_true, if_true, if_false, ite_true, ite_false, Nat.reduceAdd, Nat.reduceSub, Tg.slots, List.any_cons, List.any_nil, isTy, escJ, Bool.or_false, Bool.false_or, Bool.or_true, Bool.true_or, Bool.not_true, Bool.not_false, Bool.false_eq_true, decide_true, decide_false, nc_lit, eq_self, Int.reduceEq, Nat.reduceEqDiff, and_self, and_true, true_and, ofS_inj, String.reduceEq, W_ok, W_ite, b_assoc, bk_r, bk_n, tn_n, tn_c, tn_b, tn_r, decide_eq_true_eq, Bool.not_eq_true', decide_eq_false_iff_not, Nat.add_sub_cancel, List.append_nil, List.not_mem_nil, not_true_eq_false, not_false_eq_true, ownK, ownL, dKey, Bool.true_eq_false, List.mem_cons, or_self, or_false, false_or, List.filter_cons, List.filter_nil, List.contains_cons, List.contains_nil, Nat.reduceBEq, Nat.reduceLeDiff, Int.reduceLT, Int.reduceLE, Int.reduceNeg, Nat.zero_add, bor_var, bnd_kN, bndI, view_s, view_d, view_o, view_l, read_s, read_d, read_o, at_s, at_0, put_s, put_0, frz_nil, frz_cons, frz1_s, frz1_o, frz1_d, frz1_l, frz1_n, bt_nm, bt_tp, bts_nil, bts_cons, wipe_nil, wipe_cons, seq_l, seq_t, seq_s, bq_tt, bq_tf, bq_ft, bq_ff, ad_t, ad_l, ai0, ai1, ai2, ai3, ng_i, int_i, mx_i, mn_i, bor_glob, bor_kI, bor_kS, bor_kB, bor_kN, bor_nil, bor_cons, bor_tup, bor_lst, bor_dnew, bor_dct1, bor_op, bor_neg, bor_cmp, bor_chain, bor_and, bor_or, bor_one, bor_not, bor_ite, bor_idx, bor_slc, bor_call, bor_bt, bor_isi, bor_lc, bnd_glob, bnd_kI, bnd_kS, bnd_kB, bnd_nil, bnd_cons, bnd_tup, bnd_lst, bnd_dnew, bnd_dct1, bnd_op, bnd_neg, bnd_cmp, bnd_chain, bnd_and, bnd_or, bnd_one, bnd_not, bnd_ite, bnd_idx, bnd_slc, bnd_call, bnd_bt, bnd_isi, bnd_lc, bnd_var, $xs,*])
def SomeAt (d : Nat) : Prop := ∀ (k : Kind) (c : Int) (n : Nat), kdp k < d → Kok 10 k → kemp k = false → 3 * d + 6 ≤ n → ∃ v, callF GC XC M n 39 [kd k, .int c] = .ok v.d ∧ isOf v k = true ∧ Val.ok 11 v ∧ v.dp ≤ kdp k + 1
theorem fits_place {v : Val} {p : Part} (h : v.fits p = true) : v.place = p.place := by
  cases v <;> cases p <;> first | rfl | (unfold Val.fits at h; cases h)
theorem isOf_of {k : Kind} (ho : Ordd k) {p : Part} (hp : p ∈ k) {v : Val} (h : v.fits p = true) : isOf v k = true := by
  unfold isOf
  rw [fits_place h, findP_mem ho hp]
  exact h
theorem field_emp {fs : List Field} {op : Bool} (h : (Part.record fs op).emp = false) : ∀ f ∈ fs, f.2.2 = true → kemp f.2.1 = false := by
  intro f hf hm
  rw [emp_rec, List.any_eq_false] at h
  have := h f hf
  rw [hm] at this
  simpa using this
theorem law_some_record_c {d : Nat} (ih : SomeAt d) (fs : List Field) (op : Bool) (c : Int) (n : Nat) (hd : (Part.record fs op).dp ≤ d) (hk : Part.ok 10 (.record fs op)) (he : (Part.record fs op).emp = false) (hn : 3 * d + 7 ≤ n) :
    ∃ v, callF GC XC M n 41 [(Part.record fs op).d, .int c] = .ok v.d ∧ v.fits (.record fs op) = true ∧ Val.ok 11 v ∧ v.dp ≤ (Part.record fs op).dp + 1 := by
  obtain ⟨hn1, hfl, hkf⟩ := Kok.field hk
  have ndf := hn1.1.nodup
  have dpos : 1 ≤ (Part.record fs op).dp := by rw [pdp_rec]; omega
  suffices h : W (callF GC XC M n 41 [(Part.record fs op).d, .int c]) (fun x => ∃ v : Val, x = v.d ∧ v.fits (.record fs op) = true ∧ Val.ok 11 v ∧ v.dp ≤ (Part.record fs op).dp + 1) by
    obtain ⟨x, h1, v, rfl, q⟩ := h
    exact ⟨v, h1, q⟩
  refine W_call (fn := f__law_some_record) (by omega) rfl rfl ?_
  unfold f__law_some_record
  rw [pd_rec]
  simp! only [enum_map]
  -- the end: a dict of good pairs, sorted
  have fin : ∀ (l : List (Str × Val)), (l.map (·.1)).Nodup → l.length ≤ 11 → (∀ q ∈ l, isNameS q.1 = true ∧ Val.ok 11 q.2 ∧ q.2.dp ≤ (Part.record fs op).dp ∧ pairOk fs op q = true) → (∀ f ∈ fs, f.2.2 = true → f.1 ∈ l.map (·.1)) →
      (Val.record (sortA l)).fits (.record fs op) = true ∧ Val.ok 11 (.record (sortA l)) ∧ (Val.record (sortA l)).dp ≤ (Part.record fs op).dp + 1 := by
    intro l nd hlen hq hmust
    refine ⟨?_, .record ⟨sortA_rise nd, fun x hx => ?_⟩ (by rw [sortA_len]; exact hlen) fun p hp => (hq p (sortA_mem hp).1).2.1, vdp_le (fun us he => by cases he) (fun ps he => ?_)⟩
    · rw [fits_rec2, Bool.and_eq_true, List.all_eq_true, List.all_eq_true]
      refine ⟨fun f hf => ?_, fun p hp => (hq p (sortA_mem hp).1).2.2.2⟩
      cases hm : f.2.2 with
      | false => rfl
      | true =>
        have := hmust f hf hm
        have : f.1 ∈ (sortA l).map (·.1) := by rw [sortA_keys]; exact (sortS_perm _).mem_iff.mpr this
        simp [this]
    · obtain ⟨p, hp, rfl⟩ := List.mem_map.mp hx
      exact (hq p (sortA_mem hp).1).1
    · cases he
      exact ⟨by omega, fun p hp => by have := (hq p (sortA_mem hp).1).2.2.1; omega⟩
  refine W_for (i := fun q : Field × Nat => PyData.tuple [.int ((q.2 : Nat) : Int), fieldT q.1]) (l := fs.zipIdx) (fun (p : List (Field × Nat)) ρ => ∃ (l : List (Str × Val)) (o3 o4 o5 o6 : Option Sl), ρ = [some (.dat (.tuple [.str "record", .tuple (fs.map fieldT), .bool op])), some (.dat (.int c)), some (.own (.dict (encJ Val.d l))), o3, o4, o5, o6, none] ∧ (l.map (·.1)).Nodup ∧ l.length ≤ p.length ∧ (∀ q ∈ l, isNameS q.1 = true ∧ Val.ok 11 q.2 ∧ q.2.dp ≤ (Part.record fs op).dp ∧ pairOk fs op q = true) ∧ (∀ f ∈ p, f.1.2.2 = true → f.1.1 ∈ l.map (·.1))) ⟨[], none, none, none, none, rfl, List.nodup_nil, Nat.le_refl _, fun q hq => (by cases hq), fun f hf => (by cases hf)⟩ ?_ ?_
  · rintro p ⟨f, j⟩ q ρ hl ⟨l, o3, o4, o5, o6, rfl, nd, hlen, hq, hmust⟩
    have hmem : (f, j) ∈ fs.zipIdx := by rw [hl]; simp
    have hf : f ∈ fs := List.mem_of_getElem? (List.mem_zipIdx_iff_getElem?.mp hmem)
    have hjl : p.length < 11 := by have := congrArg List.length hl; simp at this; omega
    refine ⟨_, rfl, ?_⟩
    obtain ⟨x, mx, x0, x1⟩ := mix_x (n := n - 1) (by omega) (c + (j : Int)) 9791 2 (by omega) (by omega)
    have hfd := pdp_field (op := op) hf
    have le := law_is_empty_c (n := n - 1) f.2.1 (by omega)
    have sz := encJ_size Val.d (l := l) (by omega)
    have take : (kemp f.2.1 = false) → ∃ v : Val, callF GC XC M (n - 1) 39 [kd f.2.1, .int (c + 11 * (j : Int) + 2)] = .ok v.d ∧ (((putA l f.1 v).map (·.1)).Nodup ∧ (putA l f.1 v).length ≤ (p ++ [(f, j)]).length ∧ (∀ q ∈ putA l f.1 v, isNameS q.1 = true ∧ Val.ok 11 q.2 ∧ q.2.dp ≤ (Part.record fs op).dp ∧ pairOk fs op q = true) ∧ (∀ g ∈ p ++ [(f, j)], g.1.2.2 = true → g.1.1 ∈ (putA l f.1 v).map (·.1))) := by
      intro hke
      obtain ⟨v, h1, h2, h3, h4⟩ := ih f.2.1 (c + 11 * (j : Int) + 2) (n - 1) (by omega) (hkf f hf) hke (by omega)
      refine ⟨v, h1, putA_nodup nd _ _, Nat.le_trans (putA_len _ _ _) (by simp; omega), fun q hq' => ?_, fun g hg hm => ?_⟩
      · rcases putA_mem hq' with h | rfl
        · exact hq q h.1
        · refine ⟨hn1.2 f.1 (List.mem_map.mpr ⟨f, hf, rfl⟩), h3, by show v.dp ≤ _; omega, ?_⟩
          unfold pairOk
          rw [getA_mem ndf hf]
          exact h2
      · rw [putA_key]
        rcases List.mem_append.mp hg with hg | hg
        · exact .inl (hmust g hg hm)
        · simp at hg; subst hg; exact .inr rfl
    have skip : f.2.2 = false → ∀ g ∈ p ++ [(f, j)], g.1.2.2 = true → g.1.1 ∈ l.map (·.1) := by
      intro hm g hg hgm
      rcases List.mem_append.mp hg with hg | hg
      · exact hmust g hg hgm
      · simp at hg; subst hg; rw [hm] at hgm; cases hgm
    unfold bdF fieldT
    cases hm : f.2.2 with
    | true =>
      obtain ⟨v, h1, h2⟩ := take (field_emp he f hf hm)
      simp! only [mul_k (k := 11) (by decide), mx, le, h1, sz]
      exact ⟨putA l f.1 v, _, _, _, _, by rw [← put_encJ], h2⟩
    | false =>
      by_cases hx : x = 0
      · cases hke : kemp f.2.1 with
        | true =>
          rw [hke] at le
          simp! only [mx, hx, le]
          exact ⟨l, _, _, _, _, rfl, nd, by simp; omega, hq, skip hm⟩
        | false =>
          rw [hke] at le
          obtain ⟨v, h1, h2⟩ := take hke
          simp! only [mul_k (k := 11) (by decide), mx, hx, le, h1, sz]
          exact ⟨putA l f.1 v, _, _, _, _, by rw [← put_encJ], h2⟩
      · simp! only [mx, hx]
        exact ⟨l, _, _, _, _, rfl, nd, by simp; omega, hq, skip hm⟩
  · rintro ρ ⟨l, o3, o4, o5, o6, rfl, nd, hlen, hq, hmust⟩
    rw [List.length_zipIdx] at hlen
    have hmust : ∀ f ∈ fs, f.2.2 = true → f.1 ∈ l.map (·.1) := fun f hf hm => by
      obtain ⟨i, hi, e⟩ := List.mem_iff_getElem.mp hf
      exact hmust (f, i) (List.mem_zipIdx_iff_getElem?.mpr (by rw [List.getElem?_eq_getElem hi, e])) hm
    obtain ⟨x, mx, x0, x1⟩ := mix_x (n := n - 1) (by omega) c 9787 2 (by omega) (by omega)
    have sorted : ∀ (l : List (Str × Val)) (K : Res (List D) → Prop) (f : D → Res (Option D)), l.length ≤ 11 → (∀ p ∈ sortA l, f (.str p.1) = .ok (some (pairD p))) → K (.ok ((sortA l).map pairD)) → K (lcLoop f ((sortA l).map fun p => .str p.1)) := by
      intro l K f hl h hK
      rw [lc_map (i := fun p : Str × Val => PyData.str p.1) (g := pairD) h]
      exact hK
    have done : W (.ok (Fl.ret (PyData.tuple [.str "record", .tuple ((sortA l).map pairD)]))) (Bk fun x => ∃ v : Val, x = v.d ∧ v.fits (.record fs op) = true ∧ Val.ok 11 v ∧ v.dp ≤ (Part.record fs op).dp + 1) := by
      rw [W_ok, bk_r]
      exact ⟨.record (sortA l), by rw [vd_rec], fin l nd (by omega) hq hmust⟩
    by_cases hx : x = 0
    · cases op with
      | true =>
        have nm := name_c (n := n - 1) (by omega) (c + 3)
        obtain ⟨v, v1, v2, v3⟩ := law_value 1 (c + 4) (n - 1) (by omega)
        have v1 : callF GC XC M (n - 1) 10 [.int (c + 4), .int 1] = .ok v.d := v1
        have sz := encJ_size Val.d (l := l) (by omega)
        simp! only [mx, hx, nm]
        rw [lc_map (i := fieldT) (g := fun f => PyData.str f.1) (l := fs) (fun f hf => by unfold lcF fieldT; simp! only [W_ok])]
        have inl : inD (.str (nameS (c + 3))) (.list (fs.map fun p => PyData.str p.1)) = some (decide (nameS (c + 3) ∈ fs.map (·.1))) := by
          have := in_strL (nameS (c + 3)) (fs.map (·.1))
          rw [List.map_map] at this
          exact this
        by_cases hi : nameS (c + 3) ∈ fs.map (·.1)
        · simp! only [inl, hi, srt_encJ Val.d (show l.length < 64 by omega)]
          rw [lc_map (i := fun p : Str × Val => PyData.str p.1) (g := pairD) (fun p hp => by unfold lcF pairD; simp! only [idx_encJ, (sortA_mem hp).2])]
          simp! only [W_ok]
          exact ⟨.record (sortA l), by rw [vd_rec], fin l nd (by omega) hq hmust⟩
        · have e2 := put_encJ Val.d l (nameS (c + 3)) v
          have len2 := putA_len l (nameS (c + 3)) v
          simp! only [inl, hi, v1, sz, e2, srt_encJ Val.d (show (putA l (nameS (c + 3)) v).length < 64 by omega)]
          rw [lc_map (i := fun p : Str × Val => PyData.str p.1) (g := pairD) (fun p hp => by unfold lcF pairD; simp! only [idx_encJ, (sortA_mem hp).2])]
          simp! only [W_ok]
          refine ⟨.record (sortA (putA l (nameS (c + 3)) v)), by rw [vd_rec], fin _ (putA_nodup nd _ _) (by omega) (fun q hq' => ?_) (fun f hf hm => by rw [putA_key]; exact .inl (hmust f hf hm))⟩
          rcases putA_mem hq' with h | rfl
          · exact hq q h.1
          · refine ⟨name_is _, Val.ok.mono (by omega) v v2, by show v.dp ≤ _; omega, ?_⟩
            unfold pairOk
            rw [getA_none.mpr hi]
      | false =>
        simp! only [srt_encJ Val.d (show l.length < 64 by omega)]
        rw [lc_map (i := fun p : Str × Val => PyData.str p.1) (g := pairD) (fun p hp => by unfold lcF pairD; simp! only [idx_encJ, (sortA_mem hp).2])]
        simp! only [W_ok]
        exact ⟨.record (sortA l), by rw [vd_rec], fin l nd (by omega) hq hmust⟩
    · cases op <;> (
        simp! only [mx, hx, srt_encJ Val.d (show l.length < 64 by omega)]
        rw [lc_map (i := fun p : Str × Val => PyData.str p.1) (g := pairD) (fun p hp => by unfold lcF pairD; simp! only [idx_encJ, (sortA_mem hp).2])]
        simp! only [W_ok]
        exact ⟨.record (sortA l), by rw [vd_rec], fin l nd (by omega) hq hmust⟩)
end G7

namespace G7
open PySem
local macro_rules | `(tactic| dsimp! only [$xs,*]) => `(tactic| simp only [e_var, e_glob, e_kI, e_kS, e_kB, e_kN, e_tp, e_ls, e_dn, e_op, e_ng, e_cmp, e_chn, e_an, e_orr, e_on, e_nt, e_it, e_ix, e_sl, e_cl, e_bt, e_is, e_lcm, x_nil, x_cons, sq_n, sq_r, sq_c, sq_b, x_asg, x_asgT, x_ret, x_retN, x_if, x_for, x_whl, x_app, x_ext, x_dput, x_pass, x_cont, x_brk, evalA, evalAB, evalC, evalI, bnd, bor, view, read, Env.at, Env.put, b_ok, b_bad, b_exc, b_ite, of_some, of_none, om_some, om_none, ob_some, calm_k, tr_b, tr_n, tr_i, tr_l, tr_t, fl_ret, fl_next, fl_ite, len_s, len_l, len_t, tup_l, int_b, initE, List.map_cons, List.map_nil, List.length_cons, List.length_nil, List.cons_append, List.nil_append, List.replicate, frzE, esc, escA, escB, escAB, escI, escC, op2, add_i, sub_i, cmpD, lt_i, lt_s, is_n, is_b, eq_s, eq_i, tup_at, lst_at, str_at, Sl.d, fresh, isCont, Bool.false_and, Bool.and_false, Bool.true_and, Bool.and_true, if_true, if_false, ite_true, ite_false, Nat.reduceAdd, Nat.reduceSub, bindT, bindT.bindTs, wipeE, Tg.slots, List.any_cons, List.any_nil, isTy, escJ, Bool.or_false, Bool.false_or, Bool.or_true, Bool.true_or, Bool.not_true, Bool.not_false, Bool.false_eq_true, seqD, decide_true, decide_false, nc_lit, eq_self, Int.reduceEq, Nat.reduceEqDiff, and_self, and_true, true_and, $xs,*])
local macro_rules | `(tactic| simp! only [$xs,*]) => `(tactic| simp -implicitDefEqProofs only [e_var, e_glob, e_kI, e_kS, e_kB, e_kN, e_tp, e_ls, e_dn, e_op, e_ng, e_cmp, e_chn, e_an, e_orr, e_on, e_nt, e_it, e_ix, e_sl, e_cl, e_bt, e_is, e_lcm, x_nil, x_cons, sq_n, sq_r, sq_c, sq_b, x_asg, x_asgT, x_ret, x_retN, x_if, x_for, x_whl, x_app, x_ext, x_dput, x_pass, x_cont, x_brk, evalA, evalAB, evalC, evalI, b_ok, b_bad, b_exc, b_ite, of_some, of_none, om_some, om_none, ob_some, calm_k, tr_b, tr_n, tr_i, tr_l, tr_t, fl_ret, fl_next, fl_ite, len_s, len_l, len_t, tup_l, int_b, initE, List.map_cons, List.map_nil, List.length_cons, List.length_nil, List.cons_append, List.nil_append, List.replicate, esc, escA, escB, escAB, escI, escC, op2, add_i, sub_i, cmpD, lt_i, lt_s, is_n, is_b, eq_s, eq_i, tup_at, lst_at, str_at, Sl.d, fresh, isCont, Bool.false_and, Bool.and_false, Bool.true_and, Bool.and_true, if_true, if_false, ite_true, ite_false, Nat.reduceAdd, Nat.reduceSub, Tg.slots, List.any_cons, List.any_nil, isTy, escJ, Bool.or_false, Bool.false_or, Bool.or_true, Bool.true_or, Bool.not_true, Bool.not_false, Bool.false_eq_true, decide_true, decide_false, nc_lit, eq_self, Int.reduceEq, Nat.reduceEqDiff, and_self, and_true, true_and, ofS_inj, String.reduceEq, W_ok, W_ite, b_assoc, bk_r, bk_n, tn_n, tn_c, tn_b, tn_r, decide_eq_true_eq, Bool.not_eq_true', decide_eq_false_iff_not, Nat.add_sub_cancel, List.append_nil, List.not_mem_nil, not_true_eq_false, not_false_eq_true, ownK, ownL, dKey, Bool.true_eq_false, List.mem_cons, or_self, or_false, false_or, List.filter_cons, List.filter_nil, List.contains_cons, List.contains_nil, Nat.reduceBEq, Nat.reduceLeDiff, Int.reduceLT, Int.reduceLE, Int.reduceNeg, Nat.zero_add, bor_var, bnd_kN, bndI, view_s, view_d, view_o, view_l, read_s, read_d, read_o, at_s, at_0, put_s, put_0, frz_nil, frz_cons, frz1_s, frz1_o, frz1_d, frz1_l, frz1_n, bt_nm, bt_tp, bts_nil, bts_cons, wipe_nil, wipe_cons, seq_l, seq_t, seq_s, bq_tt, bq_tf, bq_ft, bq_ff, ad_t, ad_l, ai0, ai1, ai2, ai3, ng_i, int_i, mx_i, mn_i, bor_glob, bor_kI, bor_kS, bor_kB, bor_kN, bor_nil, bor_cons, bor_tup, bor_lst, bor_dnew, bor_dct1, bor_op, bor_neg, bor_cmp, bor_chain, bor_and, bor_or, bor_one, bor_not, bor_ite, bor_idx, bor_slc, bor_call, bor_bt, bor_isi, bor_lc, bnd_glob, bnd_kI, bnd_kS, bnd_kB, bnd_nil, bnd_cons, bnd_tup, bnd_lst, bnd_dnew, bnd_dct1, bnd_op, bnd_neg, bnd_cmp, bnd_chain, bnd_and, bnd_or, bnd_one, bnd_not, bnd_ite, bnd_idx, bnd_slc, bnd_call, bnd_bt, bnd_isi, bnd_lc, bnd_var, $xs,*])
theorem kemp1 (p : Part) : kemp [p] = p.emp := by simp [kemp]
theorem kdp1 (p : Part) : kdp [p] = p.dp := by simp [kdp, maxN]
theorem atI_some {α : Type} {l : List α} {x : Int} (h0 : 0 ≤ x) (h1 : x < (l.length : Nat)) : ∃ a ∈ l, L2.atI l x = some a := by
  obtain ⟨k, rfl⟩ : ∃ k : Nat, x = (k : Int) := ⟨x.toNat, by omega⟩
  have hk : k < l.length := by omega
  exact ⟨l[k], List.getElem_mem hk, atI_nat hk⟩
theorem cut_to {α : Type} (xs : List α) (m : Nat) (h : m ≤ xs.length) : (cutD xs none (some (m : Int))).length = m := by
  unfold cutD
  rw [List.length_take, List.length_drop]
  unfold HT.sIx
  simp
  split <;> omega
theorem some_part {d : Nat} (ih : SomeAt d) (k : Kind) (c : Int) (n : Nat) (hd : kdp k < d + 1) (hk : Kok 10 k) (p : Part) (hp : p ∈ k) (he : p.emp = false) (hn : 3 * d + 9 ≤ n)
    (hcall : callF GC XC M (n - 1) 8 [.int c, .int 9817, .int (((k.filter fun p => !p.emp).map Part.d).length : Nat)] = .ok (.int 0) → True)
    (x : Int) (mx : callF GC XC M (n - 1) 8 [.int c, .int 9817, .int ((k.filter fun p => !p.emp).length : Nat)] = .ok (.int x)) (hx : L2.atI ((k.filter fun p => !p.emp).map Part.d) x = some p.d) :
    ∃ v, callF GC XC M n 39 [kd k, .int c] = .ok v.d ∧ v.fits p = true ∧ Val.ok 11 v ∧ v.dp ≤ p.dp + 1 := by
  have hpo := hk.parts p hp
  have hpd := kdp_mem hp
  suffices h : W (callF GC XC M n 39 [kd k, .int c]) (fun x => ∃ v : Val, x = v.d ∧ v.fits p = true ∧ Val.ok 11 v ∧ v.dp ≤ p.dp + 1) by
    obtain ⟨x, h1, v, rfl, q⟩ := h
    exact ⟨v, h1, q⟩
  refine W_call (fn := f__law_some) (by omega) rfl rfl ?_
  unfold f__law_some kd
  simp! only [W_ok]
  rw [lc_flt (i := Part.d) (g := Part.d) (p := fun p : Part => !p.emp) (l := k) (fun q hq => by
    have := law_is_empty_c (n := n - 1) [q] (by rw [kdp1]; have := kdp_mem hq; omega)
    rw [kemp1] at this
    have : callF GC XC M (n - 1) 37 [.tuple [q.d]] = .ok (.bool q.emp) := this
    unfold lcF
    cases hqe : q.emp <;> (rw [hqe] at this; simp! only [this]))]
  simp! only [List.length_map, mx, hx]
  cases p with
  | whole lo hi =>
    cases hpo with
    | whole hb _ =>
      cases lo with
      | none =>
        cases hi with
        | none =>
          obtain ⟨y, my, y0, y1⟩ := mix_x (n := n - 1) (by omega) c 9811 (-20 + 30 - -20 + 1) (by omega) (by omega)
          rw [Part.d]
          simp! only [optD, my]
          exact ⟨.whole (-20 + y), by rw [Val.d], by rw [Val.fits]; rfl, .whole _, by rw [Val.dp]; omega⟩
        | some b =>
          obtain ⟨y, my, y0, y1⟩ := mix_x (n := n - 1) (by omega) c 9811 (b - (b - 9) + 1) (by omega) (by omega)
          rw [Part.d]
          simp! only [optD, my]
          exact ⟨.whole (b - 9 + y), by rw [Val.d], by rw [Val.fits]; simp [btw]; omega, .whole _, by rw [Val.dp]; omega⟩
      | some a =>
        cases hi with
        | none =>
          obtain ⟨y, my, y0, y1⟩ := mix_x (n := n - 1) (by omega) c 9811 (a + 30 - a + 1) (by omega) (by omega)
          rw [Part.d]
          simp! only [optD, my]
          exact ⟨.whole (a + y), by rw [Val.d], by rw [Val.fits]; simp [btw]; omega, .whole _, by rw [Val.dp]; omega⟩
        | some b =>
          have hb : a ≤ b := hb.1
          obtain ⟨y, my, y0, y1⟩ := mix_x (n := n - 1) (by omega) c 9811 (b - a + 1) (by omega) (by omega)
          rw [Part.d]
          simp! only [optD, my]
          exact ⟨.whole (a + y), by rw [Val.d], by rw [Val.fits]; simp [btw]; omega, .whole _, by rw [Val.dp]; omega⟩
  | text lo hi =>
    cases hpo with
    | text hb =>
      obtain ⟨m, mm, m1, m2⟩ := law_many_c (n := n - 1) (by omega) hb c
      rw [Part.d]
      simp! only [mm, slcD]
      have e : (Str.cps "wxyzuvwabcdefghijk").toList.length = 18 := by kernel_rfl
      have hl : (Str.mk (cutD (Str.cps "wxyzuvwabcdefghijk").toList none (some (m : Int))).toArray).length = m := by
        show (cutD _ _ _).toArray.size = m
        rw [List.size_toArray, cut_to _ _ (by omega)]
      exact ⟨.text ⟨(cutD (Str.cps "wxyzuvwabcdefghijk").toList none (some (m : Int))).toArray⟩, by rw [Val.d], by rw [Val.fits, hl]; exact m2, .text (by rw [hl]; omega), by rw [Val.dp]; omega⟩
  | truth t =>
    have md : modD (.int c) (.int 2) = some (.int (c % 2)) := mod_i (by omega)
    rw [Part.d]
    cases t with
    | none =>
      simp! only [optB, md, mul20, Int.add_zero]
      exact ⟨.truth (decide (c % 2 = 0)), by rw [Val.d], by rw [Val.fits]; rfl, .truth _, by rw [Val.dp]; omega⟩
    | some b =>
      cases b with
      | true =>
        simp! only [optB, md, mul20, Int.add_zero]
        exact ⟨.truth true, by rw [Val.d], by rw [Val.fits]; rfl, .truth _, by rw [Val.dp]; omega⟩
      | false =>
        simp! only [optB, md, mul21, Int.zero_add]
        exact ⟨.truth false, by rw [Val.d], by rw [Val.fits]; rfl, .truth _, by rw [Val.dp]; omega⟩
  | nothing =>
    rw [Part.d]
    simp! only [W_ok]
    exact ⟨.nothing, by rw [Val.d], by rw [Val.fits], .nothing, by rw [Val.dp]; omega⟩
  | row k' lo hi =>
    obtain ⟨hk', hcn⟩ := Kok.row hpo
    rw [pdp_row] at hpd
    have le := law_is_empty_c (n := n - 1) k' (by omega)
    rw [emp_row] at he
    rw [pd_row]
    cases hke : kemp k' with
    | true =>
      rw [hke] at le he
      have hlo : ¬ 0 < lo := by simpa using he
      simp! only [le]
      refine ⟨.row [], by rw [vd_row]; rfl, ?_, .row (Nat.zero_le _) (fun v hv => by cases hv), by rw [vdp_row]; simp [maxN]⟩
      rw [fits_row]
      cases hi with
      | none => simp [btw]; omega
      | some b => obtain ⟨a1, a2, a3⟩ := hcn; simp [btw]; omega
    | false =>
      rw [hke] at le
      obtain ⟨m, mm, m1, m2⟩ := law_many_c (n := n - 1) (by omega) hcn c
      simp! only [le, mm, rng_c (show (0 : Int) ≤ (m : Int) by omega) (show (m : Int) ≤ 1000 by omega), rng0, Int.toNat_natCast]
      obtain ⟨vs, ev, hl, hvs⟩ := lc_ex (f := lcF GC (callF GC XC M (n - 1)) (E.call 39 (E.cons (E.idx (E.var 3) (E.kI 1)) (E.cons (E.op .add (E.op .add (E.var 1) (E.op .mul (E.kI 7) (E.var 7))) (E.kI 1)) E.nil))) (.nm 7) E.nil [some (.dat (.tuple (k.map Part.d))), some (.dat (.int c)), some (.own (.list ((k.filter fun p => !p.emp).map Part.d))), some (.dat (.tuple [.str "row", kd k', .int lo, optD hi])), none, none, some (.dat (.int (m : Int))), none]) (i := fun k : Nat => PyData.int (k : Int)) (j := Val.d) (P := fun _ v => isOf v k' = true ∧ Val.ok 11 v ∧ v.dp ≤ kdp k' + 1) (l := List.range m) (fun j _ => by
        obtain ⟨v, h1, h2, h3, h4⟩ := ih k' (c + 7 * (j : Int) + 1) (n - 1) (by omega) hk' hke (by omega)
        refine ⟨v, ?_, h2, h3, h4⟩
        unfold lcF
        simp! only [mul_k (k := 7) (by decide), h1])
      rw [ev]
      simp! only [W_ok]
      have hl2 : vs.length = m := by rw [hl, List.length_range]
      refine ⟨.row vs, by rw [vd_row], ?_, .row (by omega) fun v hv => (by obtain ⟨_, _, q⟩ := hvs v hv; exact q.2.1), vdp_le (fun us he => ?_) (fun ps he => by cases he)⟩
      · rw [fits_row, hl2, m2, Bool.true_and, List.all_eq_true]
        intro v hv
        obtain ⟨_, _, q⟩ := hvs v hv
        exact q.1
      · cases he
        rw [pdp_row]
        exact ⟨by omega, fun v hv => by obtain ⟨_, _, q⟩ := hvs v hv; omega⟩
  | record fs op =>
    obtain ⟨v, h1, h2, h3, h4⟩ := law_some_record_c ih fs op c (n - 1) (by omega) hpo he (by omega)
    rw [pd_rec] at h1 ⊢
    simp! only [h1]
    exact ⟨v, rfl, h2, h3, h4⟩
theorem law_some_all : ∀ d : Nat, SomeAt d := by
  intro d
  induction d with
  | zero => intro k c n h; omega
  | succ d ih =>
    intro k c n hd hk he hn
    have hne : 0 < (k.filter fun p => !p.emp).length := by
      unfold kemp at he
      obtain ⟨p, hp, hpe⟩ := List.all_eq_false.mp he
      exact List.length_pos_of_mem (List.mem_filter.mpr ⟨hp, by simpa using hpe⟩)
    obtain ⟨x, mx, x0, x1⟩ := mix_x (n := n - 1) (by omega) c 9817 ((k.filter fun p => !p.emp).length : Nat) (by omega) (by omega)
    obtain ⟨p, hp, hx⟩ := atI_some (l := k.filter fun p => !p.emp) x0 x1
    obtain ⟨hpk, hpe⟩ := List.mem_filter.mp hp
    have hx2 : L2.atI ((k.filter fun p => !p.emp).map Part.d) x = some p.d := by
      obtain ⟨j, rfl⟩ : ∃ j : Nat, x = (j : Int) := ⟨x.toNat, by omega⟩
      have hj : j < (k.filter fun p => !p.emp).length := by omega
      rw [atI_nat hj] at hx
      rw [atI_nat (by rw [List.length_map]; exact hj), List.getElem_map]
      injection hx with hx
      rw [hx]
    obtain ⟨v, h1, h2, h3, h4⟩ := some_part ih k c n hd hk p hpk (by simpa using hpe) (by omega) (fun _ => trivial) x mx hx2
    exact ⟨v, h1, isOf_of hk.ord hpk h2, h3, by have := kdp_mem hpk; omega⟩
theorem law_some_c {k : Kind} (hk : Kok 10 k) (he : kemp k = false) (c : Int) {n : Nat} (hn : 3 * kdp k + 9 ≤ n) : ∃ v, callF GC XC M n 39 [kd k, .int c] = .ok v.d ∧ isOf v k = true ∧ Val.ok 11 v ∧ v.dp ≤ kdp k + 1 :=
  law_some_all (kdp k + 1) k c n (by omega) hk he (by omega)
end G7

namespace G7
open PySem
local macro_rules | `(tactic| dsimp! only [$xs,*]) => `(tactic| simp only [e_var, e_glob, e_kI, e_kS, e_kB, e_kN, e_tp, e_ls, e_dn, e_op, e_ng, e_cmp, e_chn, e_an, e_orr, e_on, e_nt, e_it, e_ix, e_sl, e_cl, e_bt, e_is, e_lcm, x_nil, x_cons, sq_n, sq_r, sq_c, sq_b, x_asg, x_asgT, x_ret, x_retN, x_if, x_for, x_whl, x_app, x_ext, x_dput, x_pass, x_cont, x_brk, evalA, evalAB, evalC, evalI, bnd, bor, view, read, Env.at, Env.put, b_ok, b_bad, b_exc, b_ite, of_some, of_none, om_some, om_none, ob_some, calm_k, tr_b, tr_n, tr_i, tr_l, tr_t, fl_ret, fl_next, fl_ite, len_s, len_l, len_t, tup_l, int_b, initE, List.map_cons, List.map_nil, List.length_cons, List.length_nil, List.cons_append, List.nil_append, List.replicate, frzE, esc, escA, escB, escAB, escI, escC, op2, add_i, sub_i, cmpD, lt_i, lt_s, is_n, is_b, eq_s, eq_i, tup_at, lst_at, str_at, Sl.d, fresh, isCont, Bool.false_and, Bool.and_false, Bool.true_and, Bool.and_true, if_true, if_false, ite_true, ite_false, Nat.reduceAdd, Nat.reduceSub, bindT, bindT.bindTs, wipeE, Tg.slots, List.any_cons, List.any_nil, isTy, escJ, Bool.or_false, Bool.false_or, Bool.or_true, Bool.true_or, Bool.not_true, Bool.not_false, Bool.false_eq_true, seqD, decide_true, decide_false, nc_lit, eq_self, Int.reduceEq, Nat.reduceEqDiff, and_self, and_true, true_and, $xs,*])
local macro_rules | `(tactic| simp! only [$xs,*]) => `(tactic| simp -implicitDefEqProofs only [e_var, e_glob, e_kI, e_kS, e_kB, e_kN, e_tp, e_ls, e_dn, e_op, e_ng, e_cmp, e_chn, e_an, e_orr, e_on, e_nt, e_it, e_ix, e_sl, e_cl, e_bt, e_is, e_lcm, x_nil, x_cons, sq_n, sq_r, sq_c, sq_b, x_asg, x_asgT, x_ret, x_retN, x_if, x_for, x_whl, x_app, x_ext, x_dput, x_pass, x_cont, x_brk, evalA, evalAB, evalC, evalI, b_ok, b_bad, b_exc, b_ite, of_some, of_none, om_some, om_none, ob_some, calm_k, tr_b, tr_n, tr_i, tr_l, tr_t, fl_ret, fl_next, fl_ite, len_s, len_l, len_t, tup_l, int_b, initE, List.map_cons, List.map_nil, List.length_cons, List.length_nil, List.cons_append, List.nil_append, List.replicate, esc, escA, escB, escAB, escI, escC, op2, add_i, sub_i, cmpD, lt_i, lt_s, is_n, is_b, eq_s, eq_i, tup_at, lst_at, str_at, Sl.d, fresh, isCont, Bool.false_and, Bool.and_false, Bool.true_and, Bool.and_true, if_true, if_false, ite_true, ite_false, Nat.reduceAdd, Nat.reduceSub, Tg.slots, List.any_cons, List.any_nil, isTy, escJ, Bool.or_false, Bool.false_or, Bool.or_true, Bool.true_or, Bool.not_true, Bool.not_false, Bool.false_eq_true, decide_true, decide_false, nc_lit, eq_self, Int.reduceEq, Nat.reduceEqDiff, and_self, and_true, true_and, ofS_inj, String.reduceEq, W_ok, W_ite, b_assoc, bk_r, bk_n, tn_n, tn_c, tn_b, tn_r, decide_eq_true_eq, Bool.not_eq_true', decide_eq_false_iff_not, Nat.add_sub_cancel, List.append_nil, List.not_mem_nil, not_true_eq_false, not_false_eq_true, ownK, ownL, dKey, Bool.true_eq_false, List.mem_cons, or_self, or_false, false_or, List.filter_cons, List.filter_nil, List.contains_cons, List.contains_nil, Nat.reduceBEq, Nat.reduceLeDiff, Int.reduceLT, Int.reduceLE, Int.reduceNeg, Nat.zero_add, bor_var, bnd_kN, bndI, view_s, view_d, view_o, view_l, read_s, read_d, read_o, at_s, at_0, put_s, put_0, frz_nil, frz_cons, frz1_s, frz1_o, frz1_d, frz1_l, frz1_n, bt_nm, bt_tp, bts_nil, bts_cons, wipe_nil, wipe_cons, seq_l, seq_t, seq_s, bq_tt, bq_tf, bq_ft, bq_ff, ad_t, ad_l, ai0, ai1, ai2, ai3, ng_i, int_i, mx_i, mn_i, bor_glob, bor_kI, bor_kS, bor_kB, bor_kN, bor_nil, bor_cons, bor_tup, bor_lst, bor_dnew, bor_dct1, bor_op, bor_neg, bor_cmp, bor_chain, bor_and, bor_or, bor_one, bor_not, bor_ite, bor_idx, bor_slc, bor_call, bor_bt, bor_isi, bor_lc, bnd_glob, bnd_kI, bnd_kS, bnd_kB, bnd_nil, bnd_cons, bnd_tup, bnd_lst, bnd_dnew, bnd_dct1, bnd_op, bnd_neg, bnd_cmp, bnd_chain, bnd_and, bnd_or, bnd_one, bnd_not, bnd_ite, bnd_idx, bnd_slc, bnd_call, bnd_bt, bnd_isi, bnd_lc, bnd_var, $xs,*])
/-! ### a value with a place exchanged -/
theorem cutD_lo {α : Type} (xs : List α) (j : Nat) (h : j ≤ xs.length) : cutD xs none (some (j : Int)) = xs.take j := by
  unfold cutD HT.sIx
  simp
  split
  · omega
  · congr 1; omega
theorem cutD_hi {α : Type} (xs : List α) (j : Nat) (h : j ≤ xs.length) : cutD xs (some (j : Int)) none = xs.drop j := by
  unfold cutD HT.sIx
  simp
  have e : (if (j : Int) < 0 then ((j : Int) + (xs.length : Int)).toNat else min j xs.length) = j := by
    split
    · omega
    · omega
  rw [e]
  rw [List.take_of_length_le (by rw [List.length_drop]; exact Nat.le_refl _)]
theorem cutD_map {α β : Type} (f : α → β) (xs : List α) (lo hi : Option Int) : cutD (xs.map f) lo hi = (cutD xs lo hi).map f := by
  unfold cutD
  rw [List.length_map, List.map_take, List.map_drop]
theorem slc_tup (xs : List D) (lo hi : Option Int) : slcD (.tuple xs) lo hi = some (.tuple (cutD xs lo hi)) := rfl
def NearAt (d : Nat) : Prop := ∀ (v : Val) (c : Int) (n : Nat), v.dp < d → Val.ok 11 v → d + 5 ≤ n → ∃ v', callF GC XC M n 42 [v.d, .int c] = .ok v'.d ∧ Val.ok 11 v' ∧ v'.dp ≤ v.dp + 1
theorem names_cut {l : List (Str × Val)} (h : Names (l.map (·.1))) {l' : List (Str × Val)} (hs : (l'.map (·.1)).Sublist (l.map (·.1))) : Names (l'.map (·.1)) := ⟨List.Pairwise.sublist hs h.1, fun x hx => h.2 x (hs.subset hx)⟩
theorem near_c : ∀ d : Nat, NearAt d := by
  intro d
  induction d with
  | zero => intro v c n h; omega
  | succ d ih =>
    intro v c n hd hv hn
    suffices h : W (callF GC XC M n 42 [v.d, .int c]) (fun x => ∃ v' : Val, x = v'.d ∧ Val.ok 11 v' ∧ v'.dp ≤ v.dp + 1) by
      obtain ⟨x, h1, v', rfl, q⟩ := h
      exact ⟨v', h1, q⟩
    refine W_call (fn := f__law_near_v0) (by omega) rfl rfl ?_
    unfold f__law_near_v0
    obtain ⟨u, u1, u2, u3⟩ := law_value 1 c (n - 1) (by omega)
    have u1 : callF GC XC M (n - 1) 10 [.int c, .int 1] = .ok u.d := u1
    have fin : ∃ v' : Val, u.d = v'.d ∧ Val.ok 11 v' ∧ v'.dp ≤ v.dp + 1 := ⟨u, rfl, Val.ok.mono (by omega) u u2, by omega⟩
    cases v with
    | row vs =>
      cases hv with
      | row hl hvs =>
        rw [vd_row]
        cases vs with
        | nil =>
          simp! only [List.isEmpty, List.map_nil, u1]
          exact fin
        | cons a r =>
          have hne : ((a :: r).map Val.d).isEmpty = false := rfl
          generalize hvs' : a :: r = vs at *
          have hpos : 0 < vs.length := by rw [← hvs']; simp
          obtain ⟨x, mx, x0, x1⟩ := mix_x (n := n - 1) (by omega) c 9781 (vs.length : Nat) (by omega) (by omega)
          obtain ⟨j, rfl⟩ : ∃ j : Nat, x = (j : Int) := ⟨x.toNat, by omega⟩
          have hj : j < vs.length := by omega
          have hmem : vs[j] ∈ vs := List.getElem_mem hj
          have hpd := vdp_row_mem hmem
          obtain ⟨v', h1, h2, h3⟩ := ih vs[j] (c + 1) (n - 1) (by omega) (hvs _ hmem) (by omega)
          have ia : L2.atI (vs.map Val.d) (j : Int) = some vs[j].d := by rw [atI_nat (by rw [List.length_map]; exact hj), List.getElem_map]
          have e1 : (j : Int) + 1 = ((j + 1 : Nat) : Int) := by omega
          have l1 : ((vs.take j).map Val.d).length + [v'.d].length ≤ 1000 := by rw [List.length_map, List.length_take]; simp; omega
          have l2 : ((vs.take j).map Val.d ++ [v'.d]).length + ((vs.drop (j + 1)).map Val.d).length ≤ 1000 := by rw [List.length_append, List.length_map, List.length_map, List.length_take, List.length_drop]; simp; omega
          simp! only [hne, List.length_map, mx, slc_tup, cutD_map, cutD_lo vs j (by omega), e1, cutD_hi vs (j + 1) (by omega), ia, h1, ad_t l1, ad_t l2]
          refine ⟨.row (vs.take j ++ v' :: vs.drop (j + 1)), ?_, .row ?_ fun y hy => ?_, vdp_le (fun us he => ?_) (fun ps he => by cases he)⟩
          · rw [vd_row]; simp
          · rw [List.length_append, List.length_cons, List.length_take, List.length_drop]; omega
          · rcases List.mem_append.mp hy with hy | hy
            · exact hvs y (List.mem_of_mem_take hy)
            · rcases List.mem_cons.mp hy with rfl | hy
              · exact h2
              · exact hvs y (List.mem_of_mem_drop hy)
          · cases he
            refine ⟨by omega, fun y hy => ?_⟩
            rcases List.mem_append.mp hy with hy | hy
            · have := vdp_row_mem (List.mem_of_mem_take hy); omega
            · rcases List.mem_cons.mp hy with rfl | hy
              · omega
              · have := vdp_row_mem (List.mem_of_mem_drop hy); omega
    | record ps =>
      cases hv with
      | record hnm hl hvs =>
        rw [vd_rec]
        cases ps with
        | nil =>
          simp! only [List.isEmpty, List.map_nil, u1]
          exact fin
        | cons a r =>
          have hne : ((a :: r).map pairD).isEmpty = false := rfl
          generalize hvs' : a :: r = ps at *
          have hpos : 0 < ps.length := by rw [← hvs']; simp
          obtain ⟨x, mx, x0, x1⟩ := mix_x (n := n - 1) (by omega) c 9769 (ps.length : Nat) (by omega) (by omega)
          obtain ⟨y, my, y0, y1⟩ := mix_x (n := n - 1) (by omega) c 9767 3 (by omega) (by omega)
          obtain ⟨j, rfl⟩ : ∃ j : Nat, x = (j : Int) := ⟨x.toNat, by omega⟩
          have hj : j < ps.length := by omega
          have hmem : ps[j] ∈ ps := List.getElem_mem hj
          have hpd := vdp_rec_mem hmem
          have ia : L2.atI (ps.map pairD) (j : Int) = some (pairD ps[j]) := by rw [atI_nat (by rw [List.length_map]; exact hj), List.getElem_map]
          have e1 : (j : Int) + 1 = ((j + 1 : Nat) : Int) := by omega
          by_cases hy : y = 0
          · have l2 : ((ps.take j).map pairD).length + ((ps.drop (j + 1)).map pairD).length ≤ 1000 := by rw [List.length_map, List.length_map, List.length_take, List.length_drop]; omega
            simp! only [hne, List.length_map, mx, my, hy, slc_tup, cutD_map, cutD_lo ps j (by omega), e1, cutD_hi ps (j + 1) (by omega), ad_t l2]
            have sub : (ps.take j ++ ps.drop (j + 1)).Sublist ps := by
              have := List.Sublist.append (List.Sublist.refl (ps.take j)) (List.drop_sublist_drop_left ps (Nat.le_succ j))
              rwa [List.take_append_drop] at this
            refine ⟨.record (ps.take j ++ ps.drop (j + 1)), ?_, .record (names_cut hnm (List.Sublist.map _ sub)) (Nat.le_trans sub.length_le hl) fun p hp => hvs p (sub.subset hp), vdp_le (fun us he => by cases he) (fun qs he => ?_)⟩
            · rw [vd_rec]; simp
            · cases he
              exact ⟨by omega, fun p hp => by have := vdp_rec_mem (sub.subset hp); omega⟩
          · obtain ⟨v', h1, h2, h3⟩ := ih ps[j].2 (c + 2) (n - 1) (by omega) (hvs _ hmem) (by omega)
            have l1 : ((ps.take j).map pairD).length + [PyData.tuple [.str ps[j].1, v'.d]].length ≤ 1000 := by rw [List.length_map, List.length_take]; simp; omega
            have l2 : ((ps.take j).map pairD ++ [PyData.tuple [.str ps[j].1, v'.d]]).length + ((ps.drop (j + 1)).map pairD).length ≤ 1000 := by rw [List.length_append, List.length_map, List.length_map, List.length_take, List.length_drop]; simp; omega
            have pd : pairD ps[j] = .tuple [.str ps[j].1, ps[j].2.d] := rfl
            simp! only [hne, List.length_map, mx, my, hy, slc_tup, cutD_map, cutD_lo ps j (by omega), e1, cutD_hi ps (j + 1) (by omega), ia, pd, h1, ad_t l1, ad_t l2]
            have names : (ps.take j ++ (ps[j].1, v') :: ps.drop (j + 1)).map (·.1) = ps.map (·.1) := by
              have t := List.take_append_drop j (ps.map (·.1))
              rw [List.drop_eq_getElem_cons (by rw [List.length_map]; exact hj), List.getElem_map] at t
              rw [List.map_append, List.map_cons, List.map_take, List.map_drop]
              exact t
            refine ⟨.record (ps.take j ++ (ps[j].1, v') :: ps.drop (j + 1)), ?_, .record (by rw [names]; exact hnm) ?_ fun p hp => ?_, vdp_le (fun us he => by cases he) (fun qs he => ?_)⟩
            · rw [vd_rec]; simp [pairD]
            · rw [List.length_append, List.length_cons, List.length_take, List.length_drop]; omega
            · rcases List.mem_append.mp hp with hp | hp
              · exact hvs p (List.mem_of_mem_take hp)
              · rcases List.mem_cons.mp hp with rfl | hp
                · exact h2
                · exact hvs p (List.mem_of_mem_drop hp)
            · cases he
              refine ⟨by omega, fun p hp => ?_⟩
              rcases List.mem_append.mp hp with hp | hp
              · have := vdp_rec_mem (List.mem_of_mem_take hp); omega
              · rcases List.mem_cons.mp hp with rfl | hp
                · show v'.dp + 1 ≤ _; omega
                · have := vdp_rec_mem (List.mem_of_mem_drop hp); omega
    | whole i => rw [Val.d]; simp! only [u1]; exact fin
    | text i => rw [Val.d]; simp! only [u1]; exact fin
    | truth i => rw [Val.d]; simp! only [u1]; exact fin
    | nothing => rw [Val.d]; simp! only [u1]; exact fin
theorem near_v0_c {v : Val} (hv : Val.ok 11 v) (c : Int) {n : Nat} (hn : v.dp + 6 ≤ n) : ∃ v', callF GC XC M n 42 [v.d, .int c] = .ok v'.d ∧ Val.ok 11 v' ∧ v'.dp ≤ v.dp + 1 := near_c (v.dp + 1) v c n (by omega) hv (by omega)
end G7

namespace G7
open PySem
local macro_rules | `(tactic| dsimp! only [$xs,*]) => `(tactic| simp only [e_var, e_glob, e_kI, e_kS, e_kB, e_kN, e_tp, e_ls, e_dn, e_op, e_ng, e_cmp, e_chn, e_an, e_orr, e_on, e_nt, e_it, e_ix, e_sl, e_cl, e_bt, e_is, e_lcm, x_nil, x_cons, sq_n, sq_r, sq_c, sq_b, x_asg, x_asgT, x_ret, x_retN, x_if, x_for, x_whl, x_app, x_ext, x_dput, x_pass, x_cont, x_brk, evalA, evalAB, evalC, evalI, bnd, bor, view, read, Env.at, Env.put, b_ok, b_bad, b_exc, b_ite, of_some, of_none, om_some, om_none, ob_some, calm_k, tr_b, tr_n, tr_i, tr_l, tr_t, fl_ret, fl_next, fl_ite, len_s, len_l, len_t, tup_l, int_b, initE, List.map_cons, List.map_nil, List.length_cons, List.length_nil, List.cons_append, List.nil_append, List.replicate, frzE, esc, escA, escB, escAB, escI, escC, op2, add_i, sub_i, cmpD, lt_i, lt_s, is_n, is_b, eq_s, eq_i, tup_at, lst_at, str_at, Sl.d, fresh, isCont, Bool.false_and, Bool.and_false, Bool.true_and, Bool.and_true, if_true, if_false, ite_true, ite_false, Nat.reduceAdd, Nat.reduceSub, bindT, bindT.bindTs, wipeE, Tg.slots, List.any_cons, List.any_nil, isTy, escJ, Bool.or_false, Bool.false_or, Bool.or_true, Bool.true_or, Bool.not_true, Bool.not_false, Bool.false_eq_true, seqD, decide_true, decide_false, nc_lit, eq_self, Int.reduceEq, Nat.reduceEqDiff, and_self, and_true, true_and, $xs,*])
local macro_rules | `(tactic| simp! only [$xs,*]) => `(tactic| simp -implicitDefEqProofs only [e_var, e_glob, e_kI, e_kS, e_kB, e_kN, e_tp, e_ls, e_dn, e_op, e_ng, e_cmp, e_chn, e_an, e_orr, e_on, e_nt, e_it, e_ix, e_sl, e_cl, e_bt, e_is, e_lcm, x_nil, x_cons, sq_n, sq_r, sq_c, sq_b, x_asg, x_asgT, x_ret, x_retN, x_if, x_for, x_whl, x_app, x_ext, x_dput, x_pass, x_cont, x_brk, evalA, evalAB, evalC, evalI, b_ok, b_bad, b_exc, b_ite, of_some, of_none, om_some, om_none, ob_some, calm_k, tr_b, tr_n, tr_i, tr_l, tr_t, fl_ret, fl_next, fl_ite, len_s, len_l, len_t, tup_l, int_b, initE, List.map_cons, List.map_nil, List.length_cons, List.length_nil, List.cons_append, List.nil_append, List.replicate, esc, escA, escB, escAB, escI, escC, op2, add_i, sub_i, cmpD, lt_i, lt_s, is_n, is_b, eq_s, eq_i, tup_at, lst_at, str_at, Sl.d, fresh, isCont, Bool.false_and, Bool.and_false, Bool.true_and, Bool.and_true, if_true, if_false, ite_true, ite_false, Nat.reduceAdd, Nat.reduceSub, Tg.slots, List.any_cons, List.any_nil, isTy, escJ, Bool.or_false, Bool.false_or, Bool.or_true, Bool.true_or, Bool.not_true, Bool.not_false, Bool.false_eq_true, decide_true, decide_false, nc_lit, eq_self, Int.reduceEq, Nat.reduceEqDiff, and_self, and_true, true_and, ofS_inj, String.reduceEq, W_ok, W_ite, b_assoc, bk_r, bk_n, tn_n, tn_c, tn_b, tn_r, decide_eq_true_eq, Bool.not_eq_true', decide_eq_false_iff_not, Nat.add_sub_cancel, List.append_nil, List.not_mem_nil, not_true_eq_false, not_false_eq_true, ownK, ownL, dKey, Bool.true_eq_false, List.mem_cons, or_self, or_false, false_or, List.filter_cons, List.filter_nil, List.contains_cons, List.contains_nil, Nat.reduceBEq, Nat.reduceLeDiff, Int.reduceLT, Int.reduceLE, Int.reduceNeg, Nat.zero_add, bor_var, bnd_kN, bndI, view_s, view_d, view_o, view_l, read_s, read_d, read_o, at_s, at_0, put_s, put_0, frz_nil, frz_cons, frz1_s, frz1_o, frz1_d, frz1_l, frz1_n, bt_nm, bt_tp, bts_nil, bts_cons, wipe_nil, wipe_cons, seq_l, seq_t, seq_s, bq_tt, bq_tf, bq_ft, bq_ff, ad_t, ad_l, ai0, ai1, ai2, ai3, ng_i, int_i, mx_i, mn_i, bor_glob, bor_kI, bor_kS, bor_kB, bor_kN, bor_nil, bor_cons, bor_tup, bor_lst, bor_dnew, bor_dct1, bor_op, bor_neg, bor_cmp, bor_chain, bor_and, bor_or, bor_one, bor_not, bor_ite, bor_idx, bor_slc, bor_call, bor_bt, bor_isi, bor_lc, bnd_glob, bnd_kI, bnd_kS, bnd_kB, bnd_nil, bnd_cons, bnd_tup, bnd_lst, bnd_dnew, bnd_dct1, bnd_op, bnd_neg, bnd_cmp, bnd_chain, bnd_and, bnd_or, bnd_one, bnd_not, bnd_ite, bnd_idx, bnd_slc, bnd_call, bnd_bt, bnd_isi, bnd_lc, bnd_var, $xs,*])
/-! ### the law's own faults -/
def LawFaultsAt (d : Nat) : Prop := ∀ (k : Kind) (v : Val) (path : Path) (w n : Nat), 1 ≤ w → w ≤ 31 → v.dp < d → Kok w k → Val.ok w v → bnd1 w (kdp k) ≤ 16000000 → path.length + v.dp ≤ 800 → 3 * d ≤ n → callF GC XC M n 47 [kd k, v.d, pathD path] = .ok (.list ((faultsIn d k v path).map faultT))
theorem filt_get {β : Type} {l : List (Str × β)} (nd : (l.map (·.1)).Nodup) (x : Str) : l.filter (fun p => decide (p.1 = x)) = (match getA l x with
    | some v => [(x, v)]
    | none => []) := by
  induction l with
  | nil => rfl
  | cons p l ih =>
    rw [List.map_cons, List.nodup_cons] at nd
    by_cases h : p.1 = x
    · subst h
      have g : getA (p :: l) p.1 = some p.2 := by unfold getA; rw [List.find?_cons_of_pos (by simp)]; rfl
      rw [g, List.filter_cons_of_pos (by simp)]
      have : l.filter (fun q => decide (q.1 = p.1)) = [] := List.filter_eq_nil_iff.mpr fun q hq => by
        simp
        intro e
        exact nd.1 (e ▸ List.mem_map.mpr ⟨q, hq, rfl⟩)
      rw [this]
    · have g : getA (p :: l) x = getA l x := by unfold getA; rw [List.find?_cons_of_neg (by simp [h])]
      rw [g, List.filter_cons_of_neg (by simp [h]), ih nd.2]
theorem mul_l {xs : List D} {k : Int} (h : xs.length ≤ 1000) (h0 : 0 ≤ k) (h1 : k ≤ 1000) : mulD (.list xs) (.int k) = some (.list (List.replicate k.toNat xs).flatten) := if_pos ⟨h, h0, h1⟩
theorem mul_l0 (x : D) : mulD (.list [x]) (.int 0) = some (.list []) := by rw [mul_l (by simp) (by omega) (by omega)]; rfl
theorem mul_l1 (x : D) : mulD (.list [x]) (.int 1) = some (.list [x]) := by rw [mul_l (by simp) (by omega) (by omega)]; rfl
theorem law_faults_at_c {d : Nat} (ih : LawFaultsAt d) (fs : List Field) (ps : List (Str × Val)) (op : Bool) (path : Path) (x : Str) (w n : Nat) (hw : 1 ≤ w) (hw2 : w ≤ 31) (hd : (Val.record ps).dp < d + 1) (hk : Part.ok w (.record fs op)) (hv : Val.ok w (.record ps)) (hb : bnd1 w (Part.record fs op).dp ≤ 16000000) (hpl : path.length + (Val.record ps).dp ≤ 800) (hx : x ∈ fs.map (·.1) ++ ps.map (·.1)) (hn : 3 * d + 1 ≤ n) :
    callF GC XC M n 48 [(Part.record fs op).d, (Val.record ps).d, pathD path, .str x] = .ok (.list ((oneName d fs ps op path x).map faultT)) := by
  obtain ⟨hn1, hfl, hkf⟩ := Kok.field hk
  cases hv with
  | record hpn hl hvs =>
    have ndp := hpn.1.nodup
    have ndf := hn1.1.nodup
    have pa : addD (pathD path) (.tuple [.str x]) = some (pathD (path ++ [Sum.inr x])) := pathD_add (by omega) (Sum.inr x)
    refine C_eq (fn := f__law_faults_at) (by omega) rfl rfl ?_
    unfold f__law_faults_at
    rw [pd_rec, vd_rec]
    simp! only [W_ok]
    rw [lc_flt (i := fieldT) (g := fieldT) (p := fun f : Field => decide (f.1 = x)) (l := fs) (fun f hf => by unfold lcF fieldT; simp! only [W_ok])]
    simp! only [W_ok]
    rw [lc_flt (i := pairD) (g := pairD) (p := fun f : Str × Val => decide (f.1 = x)) (l := ps) (fun f hf => by unfold lcF pairD; simp! only [W_ok])]
    rw [filt_get ndf, filt_get ndp]
    unfold oneName
    cases hg : getA fs x with
    | none =>
      cases hg2 : getA ps x with
      | none =>
        rcases List.mem_append.mp hx with z | z
        · exact absurd z (getA_none.mp hg)
        · exact absurd z (getA_none.mp hg2)
      | some v' => cases op <;> simp! only [List.isEmpty, pa, mul_l0, mul_l1, faultT]
    | some f =>
      cases hg2 : getA ps x with
      | none => cases hm : f.2 <;> simp! only [List.isEmpty, pa, mul_l0, mul_l1, faultT, fieldT, hm]
      | some v' =>
        have hf := getA_some hg
        have hp := getA_some hg2
        have hpd := vdp_rec_mem hp
        simp only at hpd
        have hc := ih f.1 v' (path ++ [Sum.inr x]) w (n - 1) hw hw2 (by omega) (hkf _ hf) (hvs _ hp) (bnd_down hw (pdp_field (op := op) hf) hb).1 (by rw [List.length_append, List.length_singleton]; omega) (by omega)
        simp! only [List.isEmpty, pa, fieldT, pairD, hc]
theorem in_nb (t : Option Bool) (b : Bool) : inD (optB t) (.tuple [.none, .bool b]) = some (trOk b t) := by
  show (if noD (optB t) = true ∧ noDs [PyData.none, .bool b] = true ∧ (optB t).depth ≤ 64 then some ([PyData.none, .bool b].any fun y => PyData.eqv y (optB t)) else none) = _
  rw [if_pos ⟨by cases t <;> (unfold optB noD; rfl), by simp [noDs, noD], by cases t <;> simp [optB, PyData.depth]⟩]
  cases t with
  | none => simp [optB, PyData.eqv, trOk]
  | some c => cases b <;> cases c <;> simp [optB, PyData.eqv, trOk]
theorem law_faults_c : ∀ d : Nat, LawFaultsAt d := by
  intro d
  induction d with
  | zero => intro k v path w n _ _ h; omega
  | succ d ih =>
    intro k v path w n hw hw2 hd hk hv hb hpl hn
    refine C_eq (fn := f__law_faults) (by omega) rfl rfl ?_
    unfold f__law_faults
    have so : callF GC XC M (n - 1) 12 [v.d] = .ok (.str (wordAt v.place)) := (sort_of_c (by omega) v).2
    have bt := fun i lo hi => (between_c (n := n - 1) (by omega) i lo hi).2
    have bs : ∀ (i lo : Int) (hi : Option Int), callF GC XC M (n - 1) 11 [.int i, .int lo, optD hi] = _ := fun i lo hi => bt i (some lo) hi
    have l0 : 0 < sizeLine := by decide
    simp! only [so, kd]
    rw [lc_flt (i := Part.d) (g := Part.d) (p := fun p : Part => decide (p.place = v.place)) (l := k) (fun p hp => by
      unfold lcF
      obtain ⟨r, er⟩ := part_first p
      rw [er]
      simp! only [wordAt_inj (pplace_le p) (vplace_le v)])]
    rw [filt_find hk.ord]
    cases hf : findP k v.place with
    | none =>
      simp! only [Option.toList, List.isEmpty]
      unfold faultsIn
      rw [hf]
      rfl
    | some p =>
      obtain ⟨hpk, hpl2⟩ := findP_some hf
      have hpo := hk.parts p hpk
      have hbp := bnd_le hw (kdp_mem hpk) hb
      have flat : p.place ≠ 4 → p.place ≠ 5 → faultsIn (d + 1) k v path = (if ownB v p = true then [] else [(path, "bounds")] : List Fault) := by
        intro h4 h5
        unfold faultsIn
        rw [hf]
        cases v <;> cases p <;> first | (cases hpl2; done) | exact absurd rfl h4 | exact absurd rfl h5 | simp
      cases v with
      | whole i =>
        cases p with
        | whole lo hi =>
          rw [flat (by simp [Part.place]) (by simp [Part.place]), Val.d]
          cases hb : btw i lo hi <;> simp! only [Option.toList, List.isEmpty, Val.place, wordAt, Part.d, bt, hb, l0, ownB, faultT]
        | _ => cases hpl2
      | text s =>
        cases p with
        | text lo hi =>
          rw [flat (by simp [Part.place]) (by simp [Part.place]), Val.d]
          cases hb : btw s.length (some lo) hi <;> simp! only [Option.toList, List.isEmpty, Val.place, wordAt, Part.d, bs, hb, l0, ownB, faultT]
        | _ => cases hpl2
      | truth b =>
        cases p with
        | truth t =>
          rw [flat (by simp [Part.place]) (by simp [Part.place]), Val.d]
          cases hb : trOk b t <;> simp! only [Option.toList, List.isEmpty, Val.place, wordAt, Part.d, in_nb, hb, l0, ownB, faultT]
        | _ => cases hpl2
      | nothing =>
        cases p with
        | nothing =>
          rw [flat (by simp [Part.place]) (by simp [Part.place]), Val.d]
          simp! only [Option.toList, List.isEmpty, Val.place, wordAt, Part.d, l0, ownB, faultT]
        | _ => cases hpl2
      | row vs =>
        cases p with
        | row k' lo hi =>
          obtain ⟨hk', _⟩ := Kok.row hpo
          cases hv with
          | row hl hvs =>
            have ef : faultsIn (d + 1) k (.row vs) path = (if ownB (.row vs) (.row k' lo hi) = true then [] else [(path, "bounds")] : List Fault) ++ vs.zipIdx.flatMap fun (q : Val × Nat) => faultsIn d k' q.1 (path ++ [Sum.inl (q.2 : Int)]) := by
              conv => lhs; unfold faultsIn
              rw [hf]
            have dpos : (Part.row k' lo hi).dp = 1 + kdp k' := pdp_row k' lo hi
            have bd := bnd_down hw (show (Part.row k' lo hi).dp - 1 < (Part.row k' lo hi).dp by omega) hbp
            have each : ∀ q ∈ vs.zipIdx, (faultsIn d k' q.1 (path ++ [Sum.inl (q.2 : Int)])).length ≤ bnd1 w ((Part.row k' lo hi).dp - 1) := fun q hq => by
              have hmem : q.1 ∈ vs := List.mem_of_getElem? (List.mem_zipIdx_iff_getElem?.mp hq)
              exact faults_len d k' q.1 _ w hw hk' (hvs _ hmem) _ (by omega)
            have ow : ownB (.row vs) (.row k' lo hi) = btw vs.length (some lo) hi := rfl
            rw [ef, vd_row, ow]
            cases e : btw vs.length (some lo) hi <;> (
              simp! only [Option.toList, List.isEmpty, Val.place, wordAt, pd_row, List.length_map, bs, e, l0, enum_map]
              refine W_for (i := fun p : Val × Nat => PyData.tuple [.int ((p.2 : Nat) : Int), p.1.d]) (l := vs.zipIdx) (fun p ρ => ∃ o7 o8 o9 o10 o11, ρ = [some (.dat (.tuple (k.map Part.d))), some (.dat (.tuple [.str "row", .tuple (vs.map Val.d)])), some (.dat (pathD path)), some (.dat (.str "row")), some (.own (.list [.tuple [.str "row", kd k', .int lo, optD hi]])), some (.dat (.tuple [.str "row", kd k', .int lo, optD hi])), some (.own (.list (((if btw vs.length (some lo) hi = true then [] else [(path, "bounds")] : List Fault) ++ p.flatMap fun (q : Val × Nat) => faultsIn d k' q.1 (path ++ [Sum.inl (q.2 : Int)])).map faultT))), o7, o8, o9, o10, o11] ∧ (p.flatMap fun (q : Val × Nat) => faultsIn d k' q.1 (path ++ [Sum.inl (q.2 : Int)])).length ≤ p.length * bnd1 w ((Part.row k' lo hi).dp - 1)) ⟨none, none, none, none, none, by simp [e, faultT], by simp⟩ ?_ ?_
              · rintro p x q ρ hl2 ⟨o7, o8, o9, o10, o11, rfl, hcnt⟩
                have hx : x ∈ vs.zipIdx := by rw [hl2]; simp
                have hmem : x.1 ∈ vs := List.mem_of_getElem? (List.mem_zipIdx_iff_getElem?.mp hx)
                have hpn2 : p.length + 1 ≤ 2 * w := by
                  have := congrArg List.length hl2
                  simp at this
                  omega
                have fits : (p.length + 1) * bnd1 w ((Part.row k' lo hi).dp - 1) ≤ 16000000 := Nat.le_trans (Nat.mul_le_mul_right _ hpn2) bd.2
                rw [Nat.succ_mul] at fits
                have e1 := each x hx
                have hpd := vdp_row_mem hmem
                have hc := ih k' x.1 (path ++ [Sum.inl (x.2 : Int)]) w (n - 1) hw hw2 (by omega) hk' (hvs _ hmem) (bnd_down hw (show kdp k' < (Part.row k' lo hi).dp by omega) hbp).1 (by rw [List.length_append, List.length_singleton]; omega) (by omega)
                have pa : addD (pathD path) (.tuple [.int ((x.2 : Nat) : Int)]) = some (pathD (path ++ [Sum.inl (x.2 : Int)])) := pathD_add (by omega) (Sum.inl (x.2 : Int))
                have own : (if btw vs.length (some lo) hi = true then [] else [(path, "bounds")] : List Fault).length ≤ 1 := by split <;> simp
                have sz2 : (((if btw vs.length (some lo) hi = true then [] else [(path, "bounds")] : List Fault) ++ p.flatMap fun (q : Val × Nat) => faultsIn d k' q.1 (path ++ [Sum.inl (q.2 : Int)])).map faultT).length + ((faultsIn d k' x.1 (path ++ [Sum.inl (x.2 : Int)])).map faultT).length ≤ sizeLine := big24 (by rw [List.length_map, List.length_map, List.length_append]; omega)
                refine ⟨_, rfl, ?_⟩
                unfold bdF
                simp! only [pa, hc, sz2]
                refine ⟨o7, some (.dat (.int ((x.2 : Nat) : Int))), some (.dat x.1.d), o10, o11, ?_, ?_⟩
                · simp only [List.flatMap_append, List.flatMap_singleton, List.map_append, List.append_assoc]
                · rw [List.flatMap_append, List.flatMap_singleton, List.length_append, List.length_append, List.length_singleton, Nat.succ_mul]
                  omega
              · rintro ρ ⟨o7, o8, o9, o10, o11, rfl, hcnt⟩
                simp! only [e])
        | _ => cases hpl2
      | record ps =>
        cases p with
        | record fs op =>
          have ef : faultsIn (d + 1) k (.record ps) path = (namesOf (fs.map (·.1) ++ ps.map (·.1))).flatMap (oneName d fs ps op path) := by
            unfold faultsIn
            rw [hf]
            simp only [ownB, if_true, List.nil_append]
            rfl
          obtain ⟨hn1, hfl, hkf⟩ := Kok.field hpo
          have hv0 := hv
          cases hv with
          | record hpn hl hvs =>
            have nl := nm_len (fs.map (·.1) ++ ps.map (·.1))
            rw [List.length_append, List.length_map, List.length_map] at nl
            have each : ∀ x, (oneName d fs ps op path x).length ≤ bnd1 w ((Part.record fs op).dp - 1) := by
              intro x
              have pos := bnd1_pos w ((Part.record fs op).dp - 1)
              unfold oneName
              cases hg : getA fs x with
              | none => simp only []; split <;> simp <;> omega
              | some f =>
                cases hg2 : getA ps x with
                | none => simp only []; split <;> simp <;> omega
                | some v' =>
                  have hp := getA_some hg2
                  have := pdp_field (op := op) (getA_some hg)
                  exact faults_len d f.1 v' _ w hw (hkf _ (getA_some hg)) (hvs _ hp) _ (by simp only at this; omega)
            have dpos : 0 < (Part.record fs op).dp := by rw [pdp_rec]; omega
            have bd := bnd_down hw (show (Part.record fs op).dp - 1 < (Part.record fs op).dp by omega) hbp
            have hlen : ((fs.map fun f => PyData.str f.1).length + (ps.map fun f => PyData.str f.1).length) ≤ 1000 := by simp only [List.length_map]; omega
            have hset : btD .sset [.list ((fs.map fun f => PyData.str f.1) ++ (ps.map fun f => PyData.str f.1))] = some (.list ((namesOf (fs.map (·.1) ++ ps.map (·.1))).map .str)) := by
              have := setD_str (l := fs.map (·.1) ++ ps.map (·.1)) (by rw [List.length_append, List.length_map, List.length_map]; omega)
              rw [List.map_append, List.map_map, List.map_map] at this
              exact this
            rw [ef]
            rw [vd_rec]
            simp! only [Option.toList, List.isEmpty, Val.place, wordAt, pd_rec]
            rw [lc_map (i := fieldT) (g := fun f => PyData.str f.1) (l := fs) (fun f hf => by unfold lcF fieldT; simp! only [W_ok])]
            simp! only [W_ok]
            rw [lc_map (i := pairD) (g := fun f => PyData.str f.1) (l := ps) (fun f hf => by unfold lcF pairD; simp! only [W_ok])]
            simp! only [ad_l hlen, hset]
            refine W_for (i := PyData.str) (l := namesOf (fs.map (·.1) ++ ps.map (·.1))) (fun p ρ => ∃ o7 o8 o9 o10 o11, ρ = [some (.dat (.tuple (k.map Part.d))), some (.dat (.tuple [.str "record", .tuple (ps.map pairD)])), some (.dat (pathD path)), some (.dat (.str "record")), some (.own (.list [.tuple [.str "record", .tuple (fs.map fieldT), .bool op]])), some (.dat (.tuple [.str "record", .tuple (fs.map fieldT), .bool op])), some (.own (.list ((p.flatMap (oneName d fs ps op path)).map faultT))), o7, o8, o9, o10, o11] ∧ (p.flatMap (oneName d fs ps op path)).length ≤ p.length * bnd1 w ((Part.record fs op).dp - 1)) ⟨none, none, none, none, none, rfl, by simp⟩ ?_ ?_
            · rintro p x q ρ hl2 ⟨o7, o8, o9, o10, o11, rfl, hcnt⟩
              have hx : x ∈ namesOf (fs.map (·.1) ++ ps.map (·.1)) := by rw [hl2]; simp
              have hpn2 : p.length + 1 ≤ 2 * w := by
                have := congrArg List.length hl2
                simp at this
                omega
              have fits : (p.length + 1) * bnd1 w ((Part.record fs op).dp - 1) ≤ 16000000 := Nat.le_trans (Nat.mul_le_mul_right _ hpn2) bd.2
              rw [Nat.succ_mul] at fits
              have e1 := each x
              have hc := law_faults_at_c ih fs ps op path x w (n - 1) hw hw2 hd hpo hv0 hbp hpl (nm_mem.mp hx) (by omega)
              rw [pd_rec, vd_rec] at hc
              have sz2 : ((p.flatMap (oneName d fs ps op path)).map faultT).length + ((oneName d fs ps op path x).map faultT).length ≤ sizeLine := big24 (by rw [List.length_map, List.length_map]; omega)
              refine ⟨_, rfl, ?_⟩
              unfold bdF
              simp! only [hc, sz2]
              refine ⟨some (.dat (.str x)), o8, o9, o10, o11, ?_, ?_⟩
              · simp only [List.flatMap_append, List.flatMap_singleton, List.map_append]
              · rw [List.flatMap_append, List.flatMap_singleton, List.length_append, List.length_append, List.length_singleton, Nat.succ_mul]
                omega
            · rintro ρ ⟨o7, o8, o9, o10, o11, rfl, hcnt⟩
              simp! only [W_ok]
        | _ => cases hpl2
/-! ### the same, by a plain walk -/
mutual
def plainD : D → Bool
  | .list _ => false
  | .dict _ => false
  | .tuple xs => plainDs xs
  | .none => true
  | .bool _ => true
  | .int _ => true
  | .str _ => true
def plainDs : List D → Bool
  | [] => true
  | x :: r => plainD x && plainDs r
end
mutual
def deepD' : D → Nat
  | .tuple xs => 1 + deepDs' xs
  | _ => 1
def deepDs' : List D → Nat
  | [] => 0
  | x :: r => max (deepD' x) (deepDs' r)
end
theorem deepDs_mem : ∀ {xs : List D} {x : D}, x ∈ xs → deepD' x ≤ deepDs' xs
  | [], _, h => by cases h
  | y :: r, x, h => by
    unfold deepDs'
    rcases List.mem_cons.mp h with rfl | h
    · omega
    · have := deepDs_mem h; omega
theorem plainDs_mem : ∀ {xs : List D}, plainDs xs = true → ∀ x ∈ xs, plainD x = true
  | [], _, _, h => by cases h
  | y :: r, h, x, hx => by
    unfold plainDs at h
    simp only [Bool.and_eq_true] at h
    rcases List.mem_cons.mp hx with rfl | hx
    · exact h.1
    · exact plainDs_mem h.2 x hx
theorem zip_self : ∀ xs : List D, zipD xs xs = xs.map fun x => .tuple [x, x]
  | [] => rfl
  | x :: r => by show _ :: zipD r r = _; rw [zip_self r]; rfl
theorem same_c : ∀ (m : Nat) (d : D) (n : Nat), deepD' d ≤ m → plainD d = true → m ≤ n → callF GC XC M n 45 [d, d] = .ok (.bool true) := by
  intro m
  induction m with
  | zero => intro d n h; cases d <;> (unfold deepD' at h; omega)
  | succ m ih =>
    intro d n hm hp hn
    refine C_eq (fn := f__law_same) (by omega) rfl rfl ?_
    unfold f__law_same
    cases d with
    | tuple xs =>
      unfold plainD at hp
      unfold deepD' at hm
      simp! only [zip_self]
      rw [lc_map (i := fun x : D => PyData.tuple [x, x]) (g := fun _ => PyData.bool true) (l := xs) (fun x hx => by
        unfold lcF
        simp! only [ih x (n - 1) (by have := deepDs_mem hx; omega) (plainDs_mem hp x hx) (by omega)])]
      simp! only [W_ok]
      rw [all_map]
      simp! only [List.all_eq_true]
      simp
    | list xs => unfold plainD at hp; cases hp
    | dict xs => unfold plainD at hp; cases hp
    | none => simp! only [W_ok]
    | bool b => simp! only [eq_b, beq_self_eq_true]
    | int i => simp! only [W_ok]
    | str x => simp! only [W_ok]
theorem plainDs_of {xs : List D} (h : ∀ x ∈ xs, plainD x = true) : plainDs xs = true := by
  induction xs with
  | nil => unfold plainDs; rfl
  | cons x r ih =>
    unfold plainDs
    rw [h x List.mem_cons_self, ih fun y hy => h y (List.mem_cons_of_mem _ hy)]
    rfl
theorem deepDs_of {xs : List D} {m : Nat} (h : ∀ x ∈ xs, deepD' x ≤ m) : deepDs' xs ≤ m := by
  induction xs with
  | nil => unfold deepDs'; omega
  | cons x r ih =>
    unfold deepDs'
    have := h x List.mem_cons_self
    have := ih fun y hy => h y (List.mem_cons_of_mem _ hy)
    omega
theorem path_plain (p : Path) : plainD (pathD p) = true ∧ deepD' (pathD p) ≤ 2 := by
  unfold pathD plainD deepD'
  refine ⟨plainDs_of fun x hx => ?_, ?_⟩
  · obtain ⟨k, _, rfl⟩ := List.mem_map.mp hx
    cases k <;> (unfold keyD plainD; rfl)
  · have : deepDs' (p.map keyD) ≤ 1 := deepDs_of fun x hx => by
      obtain ⟨k, _, rfl⟩ := List.mem_map.mp hx
      cases k <;> (unfold keyD deepD'; omega)
    omega
theorem faults_plain (L : List Fault) : plainD (.tuple (L.map faultT)) = true ∧ deepD' (.tuple (L.map faultT)) ≤ 4 := by
  constructor
  · unfold plainD
    refine plainDs_of fun x hx => ?_
    obtain ⟨f, _, rfl⟩ := List.mem_map.mp hx
    unfold faultT plainD plainDs plainDs plainDs
    rw [(path_plain f.1).1]
    unfold plainD
    rfl
  · unfold deepD'
    have : deepDs' (L.map faultT) ≤ 3 := deepDs_of fun x hx => by
      obtain ⟨f, _, rfl⟩ := List.mem_map.mp hx
      unfold faultT deepD' deepDs' deepDs' deepDs'
      have := (path_plain f.1).2
      have : deepD' (.str f.2) = 1 := by unfold deepD'; rfl
      omega
    omega
end G7

namespace G7
open PySem
local macro_rules | `(tactic| dsimp! only [$xs,*]) => `(tactic| simp only [e_var, e_glob, e_kI, e_kS, e_kB, e_kN, e_tp, e_ls, e_dn, e_op, e_ng, e_cmp, e_chn, e_an, e_orr, e_on, e_nt, e_it, e_ix, e_sl, e_cl, e_bt, e_is, e_lcm, x_nil, x_cons, sq_n, sq_r, sq_c, sq_b, x_asg, x_asgT, x_ret, x_retN, x_if, x_for, x_whl, x_app, x_ext, x_dput, x_pass, x_cont, x_brk, evalA, evalAB, evalC, evalI, bnd, bor, view, read, Env.at, Env.put, b_ok, b_bad, b_exc, b_ite, of_some, of_none, om_some, om_none, ob_some, calm_k, tr_b, tr_n, tr_i, tr_l, tr_t, fl_ret, fl_next, fl_ite, len_s, len_l, len_t, tup_l, int_b, initE, List.map_cons, List.map_nil, List.length_cons, List.length_nil, List.cons_append, List.nil_append, List.replicate, frzE, esc, escA, escB, escAB, escI, escC, op2, add_i, sub_i, cmpD, lt_i, lt_s, is_n, is_b, eq_s, eq_i, tup_at, lst_at, str_at, Sl.d, fresh, isCont, Bool.false_and, Bool.and_false, Bool.true_and, Bool.and_true, if_true, if_false, ite_true, ite_false, Nat.reduceAdd, Nat.reduceSub, bindT, bindT.bindTs, wipeE, Tg.slots, List.any_cons, List.any_nil, isTy, escJ, Bool.or_false, Bool.false_or, Bool.or_true, Bool.true_or, Bool.not_true, Bool.not_false, Bool.false_eq_true, seqD, decide_true, decide_false, nc_lit, eq_self, Int.reduceEq, Nat.reduceEqDiff, and_self, and_true, true_and, $xs,*])
local macro_rules | `(tactic| simp! only [$xs,*]) => `(tactic| simp -implicitDefEqProofs only [e_var, e_glob, e_kI, e_kS, e_kB, e_kN, e_tp, e_ls, e_dn, e_op, e_ng, e_cmp, e_chn, e_an, e_orr, e_on, e_nt, e_it, e_ix, e_sl, e_cl, e_bt, e_is, e_lcm, x_nil, x_cons, sq_n, sq_r, sq_c, sq_b, x_asg, x_asgT, x_ret, x_retN, x_if, x_for, x_whl, x_app, x_ext, x_dput, x_pass, x_cont, x_brk, evalA, evalAB, evalC, evalI, b_ok, b_bad, b_exc, b_ite, of_some, of_none, om_some, om_none, ob_some, calm_k, tr_b, tr_n, tr_i, tr_l, tr_t, fl_ret, fl_next, fl_ite, len_s, len_l, len_t, tup_l, int_b, initE, List.map_cons, List.map_nil, List.length_cons, List.length_nil, List.cons_append, List.nil_append, List.replicate, esc, escA, escB, escAB, escI, escC, op2, add_i, sub_i, cmpD, lt_i, lt_s, is_n, is_b, eq_s, eq_i, tup_at, lst_at, str_at, Sl.d, fresh, isCont, Bool.false_and, Bool.and_false, Bool.true_and, Bool.and_true, if_true, if_false, ite_true, ite_false, Nat.reduceAdd, Nat.reduceSub, Tg.slots, List.any_cons, List.any_nil, isTy, escJ, Bool.or_false, Bool.false_or, Bool.or_true, Bool.true_or, Bool.not_true, Bool.not_false, Bool.false_eq_true, decide_true, decide_false, nc_lit, eq_self, Int.reduceEq, Nat.reduceEqDiff, and_self, and_true, true_and, ofS_inj, String.reduceEq, W_ok, W_ite, b_assoc, bk_r, bk_n, tn_n, tn_c, tn_b, tn_r, decide_eq_true_eq, Bool.not_eq_true', decide_eq_false_iff_not, Nat.add_sub_cancel, List.append_nil, List.not_mem_nil, not_true_eq_false, not_false_eq_true, ownK, ownL, dKey, Bool.true_eq_false, List.mem_cons, or_self, or_false, false_or, List.filter_cons, List.filter_nil, List.contains_cons, List.contains_nil, Nat.reduceBEq, Nat.reduceLeDiff, Int.reduceLT, Int.reduceLE, Int.reduceNeg, Nat.zero_add, bor_var, bnd_kN, bndI, view_s, view_d, view_o, view_l, read_s, read_d, read_o, at_s, at_0, put_s, put_0, frz_nil, frz_cons, frz1_s, frz1_o, frz1_d, frz1_l, frz1_n, bt_nm, bt_tp, bts_nil, bts_cons, wipe_nil, wipe_cons, seq_l, seq_t, seq_s, bq_tt, bq_tf, bq_ft, bq_ff, ad_t, ad_l, ai0, ai1, ai2, ai3, ng_i, int_i, mx_i, mn_i, bor_glob, bor_kI, bor_kS, bor_kB, bor_kN, bor_nil, bor_cons, bor_tup, bor_lst, bor_dnew, bor_dct1, bor_op, bor_neg, bor_cmp, bor_chain, bor_and, bor_or, bor_one, bor_not, bor_ite, bor_idx, bor_slc, bor_call, bor_bt, bor_isi, bor_lc, bnd_glob, bnd_kI, bnd_kS, bnd_kB, bnd_nil, bnd_cons, bnd_tup, bnd_lst, bnd_dnew, bnd_dct1, bnd_op, bnd_neg, bnd_cmp, bnd_chain, bnd_and, bnd_or, bnd_one, bnd_not, bnd_ite, bnd_idx, bnd_slc, bnd_call, bnd_bt, bnd_isi, bnd_lc, bnd_var, $xs,*])
/-! ### kinds as texts -/
def endT : Option Int → Str
  | none => ""
  | some i => Str.ofString (toString i)
def boundsT (lo hi : Option Int) : Str := endT lo ++ ".." ++ endT hi
def fieldX (g : Kind → Str) (f : Field) : Str := f.1 ++ (if f.2.2 = true then ("" : Str) else "?") ++ ": (" ++ g f.2.1 ++ ")"
def moreX (op : Bool) : List Str := if op = true then [("..." : Str)] else []
def textP (g : Kind → Str) : Part → Str
  | .whole lo hi => ("whole" : Str) ++ " " ++ boundsT lo hi
  | .text lo hi => ("text" : Str) ++ " " ++ boundsT (some lo) hi
  | .truth none => "truth"
  | .truth (some true) => "yes"
  | .truth (some false) => "no"
  | .nothing => "nothing"
  | .row k lo hi => ("row " : Str) ++ boundsT (some lo) hi ++ " of (" ++ g k ++ ")"
  | .record fs op => ("record {" : Str) ++ joinS ", " (fs.map (fieldX g) ++ moreX op) ++ "}"
def textK : Nat → Kind → Str
  | 0, _ => "never"
  | d + 1, k => if k = [] then "never" else joinS " | " (k.map (textP (textK d)))
theorem app_empty (a : Str) : a ++ ("" : Str) = a := by
  cases a with
  | mk x =>
    show Str.mk (x ++ (Str.ofString "").cps) = _
    have : (Str.ofString "").cps = #[] := by decide +kernel
    rw [this, Array.append_empty]
theorem app_len (a b : Str) : (a ++ b).length = a.length + b.length := by
  show (a.cps ++ b.cps).size = _
  rw [Array.size_append]
  rfl
theorem end_len {o : Option Int} (h : ∀ i, o = some i → smI i) : (endT o).length ≤ 42 := by
  cases o with
  | none => decide
  | some i =>
    have h := h i rfl
    unfold smI at h
    show (Str.ofString (toString i)).length ≤ 42
    rw [Str.ofString_eq_toList]
    show ((toString i).toList.map Char.toNat).toArray.size ≤ _
    rw [List.size_toArray, List.length_map, String.length_toList]
    show (Int.repr i).length ≤ 42
    have rl : ∀ n : Nat, n < 10 ^ 40 → n.repr.length ≤ 40 := fun n hn => by
      rw [Nat.repr_eq_ofList_toDigits, String.length_ofList]
      exact (Nat.length_toDigits_le_iff (by decide) (by decide)).mpr hn
    have hz := rl _ h
    cases i with
    | ofNat m => exact Nat.le_trans hz (by decide)
    | negSucc m =>
      show ("-" ++ (m.succ).repr).length ≤ 42
      rw [String.length_append]
      have e : "-".length = 1 := by decide
      have hz : (m.succ).repr.length ≤ 40 := hz
      omega
theorem join_len (a : Str) : ∀ (ss : List Str), (joinS a ss).length ≤ (ss.map (·.length)).sum + ss.length * a.length := by
  intro ss
  cases ss with
  | nil => exact Nat.zero_le _
  | cons x r =>
    unfold joinS
    have key : ∀ (r : List Str) (acc : Str), (r.foldl (fun acc p => acc ++ a ++ p) acc).length ≤ acc.length + (r.map (·.length)).sum + r.length * a.length := by
      intro r
      induction r with
      | nil => intro acc; simp
      | cons y r ih =>
        intro acc
        rw [List.foldl_cons]
        refine Nat.le_trans (ih _) ?_
        rw [app_len, app_len, List.map_cons, List.sum_cons, List.length_cons, Nat.succ_mul]
        omega
    refine Nat.le_trans (key r x) ?_
    rw [List.map_cons, List.sum_cons, List.length_cons, Nat.succ_mul]
    omega
end G7

namespace G7
open PySem
local macro_rules | `(tactic| dsimp! only [$xs,*]) => `(tactic| simp only [e_var, e_glob, e_kI, e_kS, e_kB, e_kN, e_tp, e_ls, e_dn, e_op, e_ng, e_cmp, e_chn, e_an, e_orr, e_on, e_nt, e_it, e_ix, e_sl, e_cl, e_bt, e_is, e_lcm, x_nil, x_cons, sq_n, sq_r, sq_c, sq_b, x_asg, x_asgT, x_ret, x_retN, x_if, x_for, x_whl, x_app, x_ext, x_dput, x_pass, x_cont, x_brk, evalA, evalAB, evalC, evalI, bnd, bor, view, read, Env.at, Env.put, b_ok, b_bad, b_exc, b_ite, of_some, of_none, om_some, om_none, ob_some, calm_k, tr_b, tr_n, tr_i, tr_l, tr_t, fl_ret, fl_next, fl_ite, len_s, len_l, len_t, tup_l, int_b, initE, List.map_cons, List.map_nil, List.length_cons, List.length_nil, List.cons_append, List.nil_append, List.replicate, frzE, esc, escA, escB, escAB, escI, escC, op2, add_i, sub_i, cmpD, lt_i, lt_s, is_n, is_b, eq_s, eq_i, tup_at, lst_at, str_at, Sl.d, fresh, isCont, Bool.false_and, Bool.and_false, Bool.true_and, Bool.and_true, if_true, if_false, ite_true, ite_false, Nat.reduceAdd, Nat.reduceSub, bindT, bindT.bindTs, wipeE, Tg.slots, List.any_cons, List.any_nil, isTy, escJ, Bool.or_false, Bool.false_or, Bool.or_true, Bool.true_or, Bool.not_true, Bool.not_false, Bool.false_eq_true, seqD, decide_true, decide_false, nc_lit, eq_self, Int.reduceEq, Nat.reduceEqDiff, and_self, and_true, true_and, $xs,*])
local macro_rules | `(tactic| simp! only [$xs,*]) => `(tactic| simp -implicitDefEqProofs only [e_var, e_glob, e_kI, e_kS, e_kB, e_kN, e_tp, e_ls, e_dn, e_op, e_ng, e_cmp, e_chn, e_an, e_orr, e_on, e_nt, e_it, e_ix, e_sl, e_cl, e_bt, e_is, e_lcm, x_nil, x_cons, sq_n, sq_r, sq_c, sq_b, x_asg, x_asgT, x_ret, x_retN, x_if, x_for, x_whl, x_app, x_ext, x_dput, x_pass, x_cont, x_brk, evalA, evalAB, evalC, evalI, b_ok, b_bad, b_exc, b_ite, of_some, of_none, om_some, om_none, ob_some, calm_k, tr_b, tr_n, tr_i, tr_l, tr_t, fl_ret, fl_next, fl_ite, len_s, len_l, len_t, tup_l, int_b, initE, List.map_cons, List.map_nil, List.length_cons, List.length_nil, List.cons_append, List.nil_append, List.replicate, esc, escA, escB, escAB, escI, escC, op2, add_i, sub_i, cmpD, lt_i, lt_s, is_n, is_b, eq_s, eq_i, tup_at, lst_at, str_at, Sl.d, fresh, isCont, Bool.false_and, Bool.and_false, Bool.true_and, Bool.and_true, if_true, if_false, ite_true, ite_false, Nat.reduceAdd, Nat.reduceSub, Tg.slots, List.any_cons, List.any_nil, isTy, escJ, Bool.or_false, Bool.false_or, Bool.or_true, Bool.true_or, Bool.not_true, Bool.not_false, Bool.false_eq_true, decide_true, decide_false, nc_lit, eq_self, Int.reduceEq, Nat.reduceEqDiff, and_self, and_true, true_and, ofS_inj, String.reduceEq, W_ok, W_ite, b_assoc, bk_r, bk_n, tn_n, tn_c, tn_b, tn_r, decide_eq_true_eq, Bool.not_eq_true', decide_eq_false_iff_not, Nat.add_sub_cancel, List.append_nil, List.not_mem_nil, not_true_eq_false, not_false_eq_true, ownK, ownL, dKey, Bool.true_eq_false, List.mem_cons, or_self, or_false, false_or, List.filter_cons, List.filter_nil, List.contains_cons, List.contains_nil, Nat.reduceBEq, Nat.reduceLeDiff, Int.reduceLT, Int.reduceLE, Int.reduceNeg, Nat.zero_add, bor_var, bnd_kN, bndI, view_s, view_d, view_o, view_l, read_s, read_d, read_o, at_s, at_0, put_s, put_0, frz_nil, frz_cons, frz1_s, frz1_o, frz1_d, frz1_l, frz1_n, bt_nm, bt_tp, bts_nil, bts_cons, wipe_nil, wipe_cons, seq_l, seq_t, seq_s, bq_tt, bq_tf, bq_ft, bq_ff, ad_t, ad_l, ai0, ai1, ai2, ai3, ng_i, int_i, mx_i, mn_i, bor_glob, bor_kI, bor_kS, bor_kB, bor_kN, bor_nil, bor_cons, bor_tup, bor_lst, bor_dnew, bor_dct1, bor_op, bor_neg, bor_cmp, bor_chain, bor_and, bor_or, bor_one, bor_not, bor_ite, bor_idx, bor_slc, bor_call, bor_bt, bor_isi, bor_lc, bnd_glob, bnd_kI, bnd_kS, bnd_kB, bnd_nil, bnd_cons, bnd_tup, bnd_lst, bnd_dnew, bnd_dct1, bnd_op, bnd_neg, bnd_cmp, bnd_chain, bnd_and, bnd_or, bnd_one, bnd_not, bnd_ite, bnd_idx, bnd_slc, bnd_call, bnd_bt, bnd_isi, bnd_lc, bnd_var, $xs,*])
def tailT (b : Nat → Nat) : Nat → Nat
  | 0 => b 0 + b 1 + b 2 + b 3 + b 4 + b 5
  | 1 => b 1 + b 2 + b 3 + b 4 + b 5
  | 2 => b 2 + b 3 + b 4 + b 5
  | 3 => b 3 + b 4 + b 5
  | 4 => b 4 + b 5
  | 5 => b 5
  | _ => 0
theorem tail_step (b : Nat → Nat) {m i : Nat} (h : m ≤ i) (hi : i ≤ 5) : b i + tailT b (i + 1) ≤ tailT b m := by
  have : i = 0 ∨ i = 1 ∨ i = 2 ∨ i = 3 ∨ i = 4 ∨ i = 5 := by omega
  have hm : m = 0 ∨ m = 1 ∨ m = 2 ∨ m = 3 ∨ m = 4 ∨ m = 5 := by omega
  rcases this with rfl | rfl | rfl | rfl | rfl | rfl <;> rcases hm with rfl | rfl | rfl | rfl | rfl | rfl <;> first | omega | (simp only [tailT]; omega)
theorem sum_places (f : Part → Nat) (b : Nat → Nat) : ∀ (l : List Part) (m : Nat), Ordd l → (∀ p ∈ l, m ≤ p.place) → (∀ p ∈ l, f p ≤ b p.place) → (l.map f).sum ≤ tailT b m
  | [], _, _, _, _ => Nat.zero_le _
  | p :: l, m, ho, hm, hf => by
    have ho' := List.pairwise_cons.mp ho
    have ih := sum_places f b l (p.place + 1) ho'.2 (fun q hq => ho'.1 q hq) (fun q hq => hf q (List.mem_cons_of_mem _ hq))
    have h1 := hf p List.mem_cons_self
    have h2 := tail_step b (hm p List.mem_cons_self) (pplace_le p)
    rw [List.map_cons, List.sum_cons]
    omega
def LB : Nat → Nat
  | 0 => 700
  | n + 1 => 4 * LB n + 700
theorem LB_pos (n : Nat) : 700 ≤ LB n := by cases n <;> (unfold LB; omega)
theorem LB_mono {m n : Nat} (h : m ≤ n) : LB m ≤ LB n := by
  induction n with
  | zero => rw [show m = 0 by omega]; exact Nat.le_refl _
  | succ n ih =>
    by_cases e : m = n + 1
    · rw [e]; exact Nat.le_refl _
    · have := ih (by omega)
      show LB m ≤ 4 * LB n + 700
      omega
theorem name_len {x : Str} (h : isNameS x = true) : x.length ≤ 6 := by
  unfold isNameS at h
  simp only [Bool.and_eq_true, decide_eq_true_eq] at h
  omega
theorem bounds_len {lo hi : Option Int} (h1 : ∀ i, lo = some i → smI i) (h2 : ∀ i, hi = some i → smI i) : (boundsT lo hi).length ≤ 86 := by
  have a := end_len h1
  have b := end_len h2
  have c : (Str.ofString "..").length = 2 := by decide +kernel
  unfold boundsT
  rw [app_len, app_len]
  omega
theorem cnt_sm {lo : Int} {hi : Option Int} (h : cntOk lo hi) : (∀ i, some lo = some i → smI i) ∧ (∀ i, hi = some i → smI i) := by
  unfold cntOk at h
  refine ⟨fun i e => ?_, fun i e => ?_⟩
  · cases e
    cases hi with
    | none => exact smI_of (by simp only at h; omega)
    | some b => exact smI_of (by simp only at h; omega)
  · subst e
    exact smI_of (by simp only at h; omega)
theorem bnd_sm {lo hi : Option Int} (h : bndOk lo hi) : (∀ i, lo = some i → smI i) ∧ (∀ i, hi = some i → smI i) := by
  cases lo with
  | none =>
    cases hi with
    | none => exact ⟨fun i e => (by cases e), fun i e => (by cases e)⟩
    | some b => exact ⟨fun i e => (by cases e), fun i e => (by cases e; exact h)⟩
  | some a =>
    cases hi with
    | none => exact ⟨fun i e => (by cases e; exact h), fun i e => (by cases e)⟩
    | some b => exact ⟨fun i e => (by cases e; exact h.2.1), fun i e => (by cases e; exact h.2.2)⟩
theorem sum_len {α : Type} {h : α → Str} {B : Nat} : ∀ {l : List α}, (∀ x ∈ l, (h x).length ≤ B) → ((l.map h).map (·.length)).sum ≤ l.length * B
  | [], _ => by simp
  | x :: l, hf => by
    have h1 := hf x List.mem_cons_self
    have h2 := sum_len (l := l) fun q hq => hf q (List.mem_cons_of_mem _ hq)
    rw [List.map_cons, List.map_cons, List.sum_cons, List.length_cons, Nat.succ_mul]
    omega
theorem ones_len {α : Type} : ∀ l : List α, (l.map fun _ => 1).sum = l.length
  | [] => rfl
  | x :: l => by rw [List.map_cons, List.sum_cons, ones_len l, List.length_cons]; omega
theorem part_len {g : Kind → Str} {L : Nat} {p : Part} (hp : Part.ok 3 p) (hg : ∀ k, Kok 3 k → kdp k < p.dp → (g k).length ≤ L) : (textP g p).length ≤ (if p.place < 4 then 100 else if p.place = 4 then 110 + L else 80 + 3 * (20 + L)) := by
  have c1 : (Str.ofString "whole").length = 5 := by decide +kernel
  have c2 : (Str.ofString " ").length = 1 := by decide +kernel
  have c3 : (Str.ofString "text").length = 4 := by decide +kernel
  have c4 : (Str.ofString "row ").length = 4 := by decide +kernel
  have c5 : (Str.ofString " of (").length = 5 := by decide +kernel
  have c6 : (Str.ofString ")").length = 1 := by decide +kernel
  have c7 : (Str.ofString "record {").length = 8 := by decide +kernel
  have c8 : (Str.ofString "}").length = 1 := by decide +kernel
  have c9 : (Str.ofString ", ").length = 2 := by decide +kernel
  have c10 : (Str.ofString ": (").length = 3 := by decide +kernel
  have c11 : (Str.ofString "...").length = 3 := by decide +kernel
  cases hp with
  | whole h _ =>
    have := bounds_len (bnd_sm h).1 (bnd_sm h).2
    show (Str.ofString "whole" ++ Str.ofString " " ++ boundsT _ _).length ≤ 100
    rw [app_len, app_len]
    omega
  | text h =>
    have := bounds_len (cnt_sm h).1 (cnt_sm h).2
    show (Str.ofString "text" ++ Str.ofString " " ++ boundsT _ _).length ≤ 100
    rw [app_len, app_len]
    omega
  | truth t => cases t with
    | none => show (Str.ofString "truth").length ≤ 100; decide +kernel
    | some b => cases b <;> (show (Str.ofString _).length ≤ 100; decide +kernel)
  | nothing => show (Str.ofString "nothing").length ≤ 100; decide +kernel
  | @row k lo hi h ho hps =>
    have := bounds_len (cnt_sm h).1 (cnt_sm h).2
    have hk := hg k ⟨ho, hps⟩ (by rw [pdp_row]; omega)
    show (Str.ofString "row " ++ boundsT (some lo) hi ++ Str.ofString " of (" ++ g k ++ Str.ofString ")").length ≤ 110 + L
    rw [app_len, app_len, app_len, app_len]
    omega
  | @record fs op hn hl ho hps =>
    show (Str.ofString "record {" ++ joinS (Str.ofString ", ") (fs.map (fieldX g) ++ moreX op) ++ Str.ofString "}").length ≤ 80 + 3 * (20 + L)
    have hf : ∀ f ∈ fs, (fieldX g f).length ≤ 14 + L := fun f hf => by
      have h1 := name_len (hn.2 f.1 (List.mem_map.mpr ⟨f, hf, rfl⟩))
      have h2 := hg f.2.1 ⟨ho f hf, hps f hf⟩ (pdp_field hf)
      have h3 : (if f.2.2 = true then Str.ofString "" else Str.ofString "?").length ≤ 1 := by split <;> decide +kernel
      unfold fieldX
      rw [app_len, app_len, app_len, app_len]
      omega
    have s1 : ((fs.map (fieldX g)).map (·.length)).sum ≤ fs.length * (14 + L) := sum_len hf
    have s2 : ((moreX op).map (·.length)).sum ≤ 3 ∧ (moreX op).length ≤ 1 := by
      unfold moreX
      cases op <;> simp [c11]
    have j := join_len (Str.ofString ", ") (fs.map (fieldX g) ++ moreX op)
    rw [List.map_append, List.sum_append, List.length_append, List.length_map, c9] at j
    have s3 : fs.length * (14 + L) ≤ 3 * (14 + L) := Nat.mul_le_mul_right _ hl
    rw [app_len, app_len]
    omega
theorem textK_len : ∀ (d : Nat) (k : Kind) (m : Nat), kdp k ≤ m → Kok 3 k → (textK d k).length ≤ LB m := by
  intro d
  induction d with
  | zero =>
    intro k m _ _
    have : (Str.ofString "never").length = 5 := by decide +kernel
    have := LB_pos m
    show (Str.ofString "never").length ≤ _
    omega
  | succ d ih =>
    intro k m hm hk
    have c0 : (Str.ofString "never").length = 5 := by decide +kernel
    have c1 : (Str.ofString " | ").length = 3 := by decide +kernel
    have hp := LB_pos m
    unfold textK
    split
    · omega
    · have j := join_len (Str.ofString " | ") (k.map (textP (textK d)))
      rw [List.map_map, List.length_map, c1] at j
      have k6 : k.length ≤ 6 := by
        have := sum_places (fun _ => 1) (fun _ => 1) k 0 hk.ord (fun _ _ => Nat.zero_le _) (fun _ _ => Nat.le_refl _)
        rw [ones_len] at this
        simpa [tailT] using this
      cases m with
      | zero =>
        have s := sum_places (fun p => (textP (textK d) p).length) (fun i => if i < 4 then 100 else 0) k 0 hk.ord (fun _ _ => Nat.zero_le _) (fun p hp => by
          have := part_len (g := textK d) (L := 0) (hk.parts p hp) (fun k' _ h => by have := kdp_mem hp; omega)
          have hd := kdp_mem hp
          cases p with
          | row k' lo hi => rw [pdp_row] at hd; omega
          | record fs op => rw [pdp_rec] at hd; omega
          | _ => simpa [Part.place] using this)
        simp [tailT] at s
        show _ ≤ 700
        have : ((k.map ((fun x => x.length) ∘ textP (textK d))).sum) ≤ 400 := s
        omega
      | succ m =>
        have s := sum_places (fun p => (textP (textK d) p).length) (fun i => if i < 4 then 100 else if i = 4 then 110 + LB m else 80 + 3 * (20 + LB m)) k 0 hk.ord (fun _ _ => Nat.zero_le _) (fun p hp => part_len (g := textK d) (L := LB m) (hk.parts p hp) (fun k' hk' h => ih k' m (by have := kdp_mem hp; omega) hk'))
        simp [tailT] at s
        show _ ≤ 4 * LB m + 700
        have : ((k.map ((fun x => x.length) ∘ textP (textK d))).sum) ≤ _ := s
        omega
end G7

namespace G7
open PySem
local macro_rules | `(tactic| dsimp! only [$xs,*]) => `(tactic| simp only [e_var, e_glob, e_kI, e_kS, e_kB, e_kN, e_tp, e_ls, e_dn, e_op, e_ng, e_cmp, e_chn, e_an, e_orr, e_on, e_nt, e_it, e_ix, e_sl, e_cl, e_bt, e_is, e_lcm, x_nil, x_cons, sq_n, sq_r, sq_c, sq_b, x_asg, x_asgT, x_ret, x_retN, x_if, x_for, x_whl, x_app, x_ext, x_dput, x_pass, x_cont, x_brk, evalA, evalAB, evalC, evalI, bnd, bor, view, read, Env.at, Env.put, b_ok, b_bad, b_exc, b_ite, of_some, of_none, om_some, om_none, ob_some, calm_k, tr_b, tr_n, tr_i, tr_l, tr_t, fl_ret, fl_next, fl_ite, len_s, len_l, len_t, tup_l, int_b, initE, List.map_cons, List.map_nil, List.length_cons, List.length_nil, List.cons_append, List.nil_append, List.replicate, frzE, esc, escA, escB, escAB, escI, escC, op2, add_i, sub_i, cmpD, lt_i, lt_s, is_n, is_b, eq_s, eq_i, tup_at, lst_at, str_at, Sl.d, fresh, isCont, Bool.false_and, Bool.and_false, Bool.true_and, Bool.and_true, if_true, if_false, ite_true, ite_false, Nat.reduceAdd, Nat.reduceSub, bindT, bindT.bindTs, wipeE, Tg.slots, List.any_cons, List.any_nil, isTy, escJ, Bool.or_false, Bool.false_or, Bool.or_true, Bool.true_or, Bool.not_true, Bool.not_false, Bool.false_eq_true, seqD, decide_true, decide_false, nc_lit, eq_self, Int.reduceEq, Nat.reduceEqDiff, and_self, and_true, true_and, $xs,*])
local macro_rules | `(tactic| simp! only [$xs,*]) => `(tactic| simp -implicitDefEqProofs only [e_var, e_glob, e_kI, e_kS, e_kB, e_kN, e_tp, e_ls, e_dn, e_op, e_ng, e_cmp, e_chn, e_an, e_orr, e_on, e_nt, e_it, e_ix, e_sl, e_cl, e_bt, e_is, e_lcm, x_nil, x_cons, sq_n, sq_r, sq_c, sq_b, x_asg, x_asgT, x_ret, x_retN, x_if, x_for, x_whl, x_app, x_ext, x_dput, x_pass, x_cont, x_brk, evalA, evalAB, evalC, evalI, b_ok, b_bad, b_exc, b_ite, of_some, of_none, om_some, om_none, ob_some, calm_k, tr_b, tr_n, tr_i, tr_l, tr_t, fl_ret, fl_next, fl_ite, len_s, len_l, len_t, tup_l, int_b, initE, List.map_cons, List.map_nil, List.length_cons, List.length_nil, List.cons_append, List.nil_append, List.replicate, esc, escA, escB, escAB, escI, escC, op2, add_i, sub_i, cmpD, lt_i, lt_s, is_n, is_b, eq_s, eq_i, tup_at, lst_at, str_at, Sl.d, fresh, isCont, Bool.false_and, Bool.and_false, Bool.true_and, Bool.and_true, if_true, if_false, ite_true, ite_false, Nat.reduceAdd, Nat.reduceSub, Tg.slots, List.any_cons, List.any_nil, isTy, escJ, Bool.or_false, Bool.false_or, Bool.or_true, Bool.true_or, Bool.not_true, Bool.not_false, Bool.false_eq_true, decide_true, decide_false, nc_lit, eq_self, Int.reduceEq, Nat.reduceEqDiff, and_self, and_true, true_and, ofS_inj, String.reduceEq, W_ok, W_ite, b_assoc, bk_r, bk_n, tn_n, tn_c, tn_b, tn_r, decide_eq_true_eq, Bool.not_eq_true', decide_eq_false_iff_not, Nat.add_sub_cancel, List.append_nil, List.not_mem_nil, not_true_eq_false, not_false_eq_true, ownK, ownL, dKey, Bool.true_eq_false, List.mem_cons, or_self, or_false, false_or, List.filter_cons, List.filter_nil, List.contains_cons, List.contains_nil, Nat.reduceBEq, Nat.reduceLeDiff, Int.reduceLT, Int.reduceLE, Int.reduceNeg, Nat.zero_add, bor_var, bnd_kN, bndI, view_s, view_d, view_o, view_l, read_s, read_d, read_o, at_s, at_0, put_s, put_0, frz_nil, frz_cons, frz1_s, frz1_o, frz1_d, frz1_l, frz1_n, bt_nm, bt_tp, bts_nil, bts_cons, wipe_nil, wipe_cons, seq_l, seq_t, seq_s, bq_tt, bq_tf, bq_ft, bq_ff, ad_t, ad_l, ai0, ai1, ai2, ai3, ng_i, int_i, mx_i, mn_i, bor_glob, bor_kI, bor_kS, bor_kB, bor_kN, bor_nil, bor_cons, bor_tup, bor_lst, bor_dnew, bor_dct1, bor_op, bor_neg, bor_cmp, bor_chain, bor_and, bor_or, bor_one, bor_not, bor_ite, bor_idx, bor_slc, bor_call, bor_bt, bor_isi, bor_lc, bnd_glob, bnd_kI, bnd_kS, bnd_kB, bnd_nil, bnd_cons, bnd_tup, bnd_lst, bnd_dnew, bnd_dct1, bnd_op, bnd_neg, bnd_cmp, bnd_chain, bnd_and, bnd_or, bnd_one, bnd_not, bnd_ite, bnd_idx, bnd_slc, bnd_call, bnd_bt, bnd_isi, bnd_lc, bnd_var, $xs,*])
/-! ### kinds written -/
theorem sz_big : (16000000 : Nat) ≤ sizeLine := by rw [sizeLine_eq]; decide
theorem ad_s {a b : Str} (h : a.length + b.length ≤ 16000000) : addD (.str a) (.str b) = some (.str (a ++ b)) := if_pos (Nat.le_trans h sz_big)
theorem mul_s {x : Str} {k : Int} (h : x.length = 1 ∧ 0 ≤ k ∧ k ≤ 1000) : mulD (.str x) (.int k) = some (.str (repS x k.toNat)) := if_pos h
theorem str_c {i : Int} (h : smI i) : btD .str [.int i] = some (.str (endT (some i))) := by
  refine if_pos ?_
  unfold smI at h
  by_cases e : i.natAbs = 0
  · rw [e]; decide
  · exact (Nat.log2_lt e).mpr (Nat.lt_trans h (by decide +kernel))
theorem end_c {n : Nat} (hn : 1 ≤ n) (o : Option Int) (h : ∀ i, o = some i → smI i) : callF GC XC M n 86 [optD o] = .ok (.str (endT o)) := by
  refine C_eq (fn := f_bound_text) (by omega) rfl rfl ?_
  unfold f_bound_text
  cases o with
  | none => unfold optD; simp! only [W_ok]; rfl
  | some i =>
    have := str_c (h i rfl)
    unfold optD
    simp! only [this]
theorem bounds_c {n : Nat} (hn : 2 ≤ n) {lo hi : Option Int} (h1 : ∀ i, lo = some i → smI i) (h2 : ∀ i, hi = some i → smI i) : callF GC XC M n 87 [.tuple [optD lo, optD hi]] = .ok (.str (boundsT lo hi)) := by
  have e1 := end_c (n := n - 1) (by omega) lo h1
  have e2 := end_c (n := n - 1) (by omega) hi h2
  have l1 := end_len h1
  have l2 := end_len h2
  have k2 : (".." : Str).length = 2 := by decide +kernel
  have a1 := ad_s (a := endT lo) (b := "..") (by omega)
  have a2 := ad_s (a := endT lo ++ "..") (b := endT hi) (by rw [app_len]; omega)
  refine C_eq (fn := f_bounds_text) (by omega) rfl rfl ?_
  unfold f_bounds_text
  simp! only [e1, e2, a1, a2]
  rfl
theorem ends_c {n : Nat} (hn : 1 ≤ n) {lo hi : Option Int} (h1 : ∀ i, lo = some i → smI i) (h2 : ∀ i, hi = some i → smI i) : callF GC XC M n 91 [optD lo, optD hi] = .ok (.str (boundsT lo hi)) := by
  have l1 := end_len h1
  have l2 := end_len h2
  have k2 : (".." : Str).length = 2 := by decide +kernel
  have a1 := ad_s (a := endT lo) (b := "..") (by omega)
  have a2 := ad_s (a := endT lo ++ "..") (b := endT hi) (by rw [app_len]; omega)
  refine C_eq (fn := f__law_ends) (by omega) rfl rfl ?_
  unfold f__law_ends
  cases lo with
  | none =>
    have a1 : addD (.str "") (.str "..") = some (.str (endT none ++ "..")) := a1
    cases hi with
    | none =>
      unfold optD
      simp! only [a1]
      unfold boundsT
      rw [show endT none = "" from rfl, app_empty]
    | some j =>
      have s2 := str_c (h2 j rfl)
      unfold optD
      simp! only [a1, s2, a2]
      rfl
  | some i =>
    have s1 := str_c (h1 i rfl)
    cases hi with
    | none =>
      unfold optD
      simp! only [a1, s1]
      unfold boundsT
      rw [show endT none = "" from rfl, app_empty]
    | some j =>
      have s2 := str_c (h2 j rfl)
      unfold optD
      simp! only [a1, s1, s2, a2]
      rfl
theorem jn_c {a : Str} {ss : List Str} (h : (ss.map (·.length)).sum + ss.length * a.length ≤ 16000000) : btD .join [.str a, .list (ss.map .str)] = some (.str (joinS a ss)) := by
  have e : strsD (ss.map .str) = some ss := by
    clear h
    induction ss with
    | nil => rfl
    | cons x r ih => show (strsD (r.map .str)).map _ = _; rw [ih]; rfl
  show (strsD (ss.map .str)).bind _ = _
  rw [e]
  exact if_pos (Nat.le_trans h sz_big)
/-- a writer of kinds, to a depth -/
def WrAt (f d n : Nat) : Prop := ∀ k m, kdp k < d → Kok 3 k → n ≤ m → callF GC XC M m f [kd k] = .ok (.str (textK d k))
theorem txt_le {d : Nat} {k : Kind} (hd : kdp k ≤ 4) (hk : Kok 3 k) : (textK d k).length ≤ 250000 := Nat.le_trans (textK_len d k 4 hd hk) (by decide)
theorem fieldX_len {d : Nat} {f : Field} (hn : isNameS f.1 = true) (hd : kdp f.2.1 ≤ 4) (hk : Kok 3 f.2.1) : (fieldX (textK d) f).length ≤ 250100 := by
  have := name_len hn
  have := txt_le (d := d) hd hk
  unfold fieldX
  rw [app_len, app_len, app_len, app_len]
  have k1 : (": (" : Str).length = 3 := by decide +kernel
  have k2 : (")" : Str).length = 1 := by decide +kernel
  have k3 : (if f.2.2 = true then ("" : Str) else "?").length ≤ 1 := by split <;> decide +kernel
  omega
theorem field_c {d n : Nat} (ih : WrAt 90 d n) {f : Field} (hn : isNameS f.1 = true) (hd : kdp f.2.1 < d) (hd4 : kdp f.2.1 ≤ 4) (hk : Kok 3 f.2.1) {m : Nat} (hm : n + 1 ≤ m) : callF GC XC M m 88 [fieldT f] = .ok (.str (fieldX (textK d) f)) := by
  have w := ih f.2.1 (m - 1) hd hk (by omega)
  have l1 := name_len hn
  have l2 := txt_le (d := d) hd4 hk
  have k1 : (": (" : Str).length = 3 := by decide +kernel
  have k2 : (")" : Str).length = 1 := by decide +kernel
  refine C_eq (fn := f_field_text) (by omega) rfl rfl ?_
  unfold f_field_text fieldT fieldX
  cases hmu : f.2.2 with
  | true =>
    have q0 : mulD (.str "?") (.int 0) = some (.str "") := by
      rw [mul_s ⟨by decide +kernel, by decide, by decide⟩, show repS "?" (0 : Int).toNat = "" from by decide +kernel]
    have e0 : ("" : Str).length = 0 := by decide +kernel
    have a0 := ad_s (a := f.1) (b := "") (by omega)
    have a1 := ad_s (a := f.1 ++ "") (b := ": (") (by rw [app_len]; omega)
    have a2 := ad_s (a := f.1 ++ "" ++ ": (") (b := textK d f.2.1) (by rw [app_len, app_len]; omega)
    have a3 := ad_s (a := f.1 ++ "" ++ ": (" ++ textK d f.2.1) (b := ")") (by rw [app_len, app_len, app_len]; omega)
    simp! only [w, q0, a0, a1, a2, a3]
    all_goals rfl
  | false =>
    have q0 : mulD (.str "?") (.int 1) = some (.str "?") := by
      rw [mul_s ⟨by decide +kernel, by decide, by decide⟩, show repS "?" (1 : Int).toNat = "?" from by decide +kernel]
    have e0 : ("?" : Str).length = 1 := by decide +kernel
    have a0 := ad_s (a := f.1) (b := "?") (by omega)
    have a1 := ad_s (a := f.1 ++ "?") (b := ": (") (by rw [app_len]; omega)
    have a2 := ad_s (a := f.1 ++ "?" ++ ": (") (b := textK d f.2.1) (by rw [app_len, app_len]; omega)
    have a3 := ad_s (a := f.1 ++ "?" ++ ": (" ++ textK d f.2.1) (b := ")") (by rw [app_len, app_len, app_len]; omega)
    simp! only [w, q0, a0, a1, a2, a3]
    all_goals rfl
theorem in_wt (w : Str) : inD (.str w) (.tuple [.str "whole", .str "text"]) = some (decide (w ∈ [("whole" : Str), "text"])) := in_strL w ["whole", "text"]
theorem whole_c {n : Nat} (hn : 3 ≤ n) {lo hi : Option Int} (h1 : ∀ i, lo = some i → smI i) (h2 : ∀ i, hi = some i → smI i) : callF GC XC M n 89 [.tuple [.str "whole", optD lo, optD hi]] = .ok (.str (("whole" : Str) ++ " " ++ boundsT lo hi)) := by
  have b := bounds_c (n := n - 1) (by omega) h1 h2
  have l := bounds_len h1 h2
  have k1 : ("whole" : Str).length = 5 := by decide +kernel
  have k2 : (" " : Str).length = 1 := by decide +kernel
  have q : decide (("whole" : Str) ∈ [("whole" : Str), "text"]) = true := by decide +kernel
  have a1 := ad_s (a := "whole") (b := " ") (by omega)
  have a2 := ad_s (a := ("whole" : Str) ++ " ") (b := boundsT lo hi) (by rw [app_len]; omega)
  have s : slcD (.tuple [.str "whole", optD lo, optD hi]) (some 1) none = some (.tuple [optD lo, optD hi]) := rfl
  refine C_eq (fn := f_part_text) (by omega) rfl rfl ?_
  unfold f_part_text
  simp! only [in_wt, q, s, b, a1, a2]
theorem more_c (op : Bool) : mulD (.list [.str "..."]) (.int (if op = true then 1 else 0)) = some (.list ((moreX op).map .str)) := by
  cases op <;> rfl
theorem rec_len {d : Nat} {fs : List Field} {op : Bool} (h : Part.ok 3 (.record fs op)) (hd : (Part.record fs op).dp ≤ 5) : (((fs.map (fieldX (textK d))) ++ moreX op).map (·.length)).sum + ((fs.map (fieldX (textK d))) ++ moreX op).length * 2 ≤ 1000000 := by
  obtain ⟨h1, h2, h3⟩ := Kok.field h
  rw [pdp_rec] at hd
  have s1 := sum_len (h := fieldX (textK d)) (B := 250100) (l := fs) (fun f hf => by
    have : kdp f.2.1 ≤ maxN (fs.map fun f => kdp f.2.1) := le_maxN (List.mem_map.mpr ⟨f, hf, rfl⟩)
    exact fieldX_len (h1.2 f.1 (List.mem_map.mpr ⟨f, hf, rfl⟩)) (Nat.le_trans this (by omega)) (h3 f hf))
  have s2 : ((moreX op).map (·.length)).sum ≤ 3 := by cases op <;> decide +kernel
  have s3 : (moreX op).length ≤ 1 := by cases op <;> decide
  rw [List.map_append, List.sum_append, List.length_append, List.length_map]
  have : fs.length * 250100 ≤ 3 * 250100 := Nat.mul_le_mul_right _ h2
  omega
theorem part_c {d n : Nat} (ih : WrAt 90 d n) {p : Part} (hp : Part.ok 3 p) (hd : p.dp ≤ d) (hd5 : p.dp ≤ 5) {m : Nat} (hm : n + 2 ≤ m) (hm3 : 3 ≤ m) : callF GC XC M m 89 [p.d] = .ok (.str (textP (textK d) p)) := by
  cases p with
  | whole lo hi =>
    cases hp with
    | whole hb _ =>
      obtain ⟨h1, h2⟩ := bnd_sm hb
      rw [Part.d]
      exact whole_c hm3 h1 h2
  | text lo hi =>
    cases hp with
    | text hb =>
      obtain ⟨h1, h2⟩ := cnt_sm hb
      have b := bounds_c (n := m - 1) (by omega) h1 h2
      have l := bounds_len h1 h2
      have k1 : ("text" : Str).length = 4 := by decide +kernel
      have k2 : (" " : Str).length = 1 := by decide +kernel
      have q : decide (("text" : Str) ∈ [("whole" : Str), "text"]) = true := by decide +kernel
      have a1 := ad_s (a := "text") (b := " ") (by omega)
      have a2 := ad_s (a := ("text" : Str) ++ " ") (b := boundsT (some lo) hi) (by rw [app_len]; omega)
      have s : slcD (.tuple [.str "text", .int lo, optD hi]) (some 1) none = some (.tuple [.int lo, optD hi]) := rfl
      have b : callF GC XC M (m - 1) 87 [.tuple [.int lo, optD hi]] = .ok (.str (boundsT (some lo) hi)) := b
      rw [Part.d]
      refine C_eq (fn := f_part_text) (by omega) rfl rfl ?_
      unfold f_part_text
      simp! only [in_wt, q, s, b, a1, a2]
      rfl
  | truth t =>
    have q : decide (("truth" : Str) ∈ [("whole" : Str), "text"]) = false := by decide +kernel
    rw [Part.d]
    refine C_eq (fn := f_part_text) (by omega) rfl rfl ?_
    unfold f_part_text
    cases t with
    | none => unfold optB; simp! only [in_wt, q]; rfl
    | some b => cases b <;> unfold optB <;> simp! only [in_wt, q] <;> rfl
  | nothing =>
    have q : decide (("nothing" : Str) ∈ [("whole" : Str), "text"]) = false := by decide +kernel
    have q1 : decide (("nothing" : Str) = "truth") = false := by decide +kernel
    rw [Part.d]
    refine C_eq (fn := f_part_text) (by omega) rfl rfl ?_
    unfold f_part_text
    simp! only [in_wt, q, q1]
    rfl
  | row k lo hi =>
    obtain ⟨hk, hc⟩ := Kok.row hp
    obtain ⟨h1, h2⟩ := cnt_sm hc
    rw [pdp_row] at hd hd5
    have b := bounds_c (n := m - 1) (by omega) h1 h2
    have b : callF GC XC M (m - 1) 87 [.tuple [.int lo, optD hi]] = .ok (.str (boundsT (some lo) hi)) := b
    have l := bounds_len h1 h2
    have w := ih k (m - 1) (by omega) hk (by omega)
    have l2 := txt_le (d := d) (k := k) (by omega) hk
    have q : decide (("row" : Str) ∈ [("whole" : Str), "text"]) = false := by decide +kernel
    have q1 : decide (("row" : Str) = "truth") = false := by decide +kernel
    have q2 : decide (("row" : Str) = "nothing") = false := by decide +kernel
    have k1 : ("row " : Str).length = 4 := by decide +kernel
    have k2 : (" of (" : Str).length = 5 := by decide +kernel
    have k3 : (")" : Str).length = 1 := by decide +kernel
    have a1 := ad_s (a := "row ") (b := boundsT (some lo) hi) (by omega)
    have a2 := ad_s (a := ("row " : Str) ++ boundsT (some lo) hi) (b := " of (") (by rw [app_len]; omega)
    have a3 := ad_s (a := ("row " : Str) ++ boundsT (some lo) hi ++ " of (") (b := textK d k) (by rw [app_len, app_len]; omega)
    have a4 := ad_s (a := ("row " : Str) ++ boundsT (some lo) hi ++ " of (" ++ textK d k) (b := ")") (by rw [app_len, app_len, app_len]; omega)
    have s : slcD (.tuple [.str "row", kd k, .int lo, optD hi]) (some 2) none = some (.tuple [.int lo, optD hi]) := rfl
    rw [pd_row]
    refine C_eq (fn := f_part_text) (by omega) rfl rfl ?_
    unfold f_part_text
    simp! only [in_wt, q, q1, q2, s, b, w, a1, a2, a3, a4]
    rfl
  | record fs op =>
    have rl := rec_len (d := d) hp hd5
    obtain ⟨h1, h2, h3⟩ := Kok.field hp
    rw [pdp_rec] at hd hd5
    have q : decide (("record" : Str) ∈ [("whole" : Str), "text"]) = false := by decide +kernel
    have q1 : decide (("record" : Str) = "truth") = false := by decide +kernel
    have q2 : decide (("record" : Str) = "nothing") = false := by decide +kernel
    have q3 : decide (("record" : Str) = "row") = false := by decide +kernel
    have k0 : (", " : Str).length = 2 := by decide +kernel
    have k1 : ("record {" : Str).length = 8 := by decide +kernel
    have k2 : ("}" : Str).length = 1 := by decide +kernel
    have lc : ∀ a0 a1 a2 : Option Sl, lcLoop (lcF GC (callF GC XC M (m - 1)) (E.call 88 (E.cons (E.var 2) E.nil)) (.nm 2) E.nil [a0, a1, a2]) (fs.map fieldT) = .ok ((fs.map (fieldX (textK d))).map .str) := fun a0 a1 a2 => by
      rw [List.map_map]
      exact lc_map (i := fieldT) (g := PyData.str ∘ fieldX (textK d)) (fun f hf => by
        have hle : kdp f.2.1 ≤ maxN (fs.map fun f => kdp f.2.1) := le_maxN (List.mem_map.mpr ⟨f, hf, rfl⟩)
        have h5 : 1 + maxN (fs.map fun f => kdp f.2.1) ≤ d := hd
        have h6 : 1 + maxN (fs.map fun f => kdp f.2.1) ≤ 5 := hd5
        have := field_c ih (h1.2 f.1 (List.mem_map.mpr ⟨f, hf, rfl⟩)) (Nat.lt_of_le_of_lt hle (by omega)) (Nat.le_trans hle (by omega)) (h3 f hf) (m := m - 1) (by omega)
        unfold lcF
        simp! only [this]
        rfl)
    have ad : addD (.list ((fs.map (fieldX (textK d))).map .str)) (.list ((moreX op).map .str)) = some (.list ((fs.map (fieldX (textK d)) ++ moreX op).map .str)) := by
      rw [ad_l (by rw [List.length_map, List.length_map, List.length_map]; have : (moreX op).length ≤ 1 := (by cases op <;> decide); omega), List.map_append]
    have jn := jn_c (a := ", ") (ss := fs.map (fieldX (textK d)) ++ moreX op) (by rw [k0]; omega)
    have jl := join_len ", " (fs.map (fieldX (textK d)) ++ moreX op)
    rw [k0] at jl
    have a1 := ad_s (a := "record {") (b := joinS ", " (fs.map (fieldX (textK d)) ++ moreX op)) (by omega)
    have a2 := ad_s (a := ("record {" : Str) ++ joinS ", " (fs.map (fieldX (textK d)) ++ moreX op)) (b := "}") (by rw [app_len]; omega)
    have mo := more_c op
    rw [pd_rec]
    refine C_eq (fn := f_part_text) (by omega) rfl rfl ?_
    unfold f_part_text
    cases op with
    | true =>
      have mo : mulD (.list [.str "..."]) (.int 1) = some (.list ((moreX true).map .str)) := mo
      simp! only [in_wt, q, q1, q2, q3, lc, ad, mo, jn, a1, a2]
      all_goals rfl
    | false =>
      have mo : mulD (.list [.str "..."]) (.int 0) = some (.list ((moreX false).map .str)) := mo
      simp! only [in_wt, q, q1, q2, q3, lc, ad, mo, jn, a1, a2]
      all_goals rfl
theorem ordd_len6' {k : Kind} (h : Ordd k) : k.length ≤ 6 := by
  have := sum_places (fun _ => 1) (fun _ => 1) k 0 h (fun _ _ => Nat.zero_le _) (fun _ _ => Nat.le_refl _)
  rw [ones_len] at this
  exact this
theorem kind_sum {d : Nat} {k : Kind} (hk : Kok 3 k) (hd : kdp k ≤ 5) : ((k.map (textP (textK d))).map (·.length)).sum + (k.map (textP (textK d))).length * 3 ≤ 5000000 := by
  have k6 := ordd_len6' hk.ord
  have s1 := sum_len (h := textP (textK d)) (B := 750400) (l := k) (fun p hp => by
    have hpd := kdp_mem hp
    refine Nat.le_trans (part_len (L := 250000) (hk.parts p hp) fun k' hk' hlt => txt_le (by omega) hk') ?_
    split
    · omega
    · split <;> omega)
  rw [List.length_map]
  have : k.length * 750400 ≤ 6 * 750400 := Nat.mul_le_mul_right _ k6
  omega
theorem written_c : ∀ d : Nat, d ≤ 6 → WrAt 90 d (3 * d + 3) := by
  intro d
  induction d with
  | zero => intro _ k m h; omega
  | succ d ih =>
    intro hd6 k m hkd hk hm
    have ih := ih (by omega)
    refine C_eq (fn := f_written) (by omega) rfl rfl ?_
    unfold f_written
    have hkk : kd k = .tuple (k.map Part.d) := rfl
    rw [hkk]
    cases k with
    | nil => simp! only [W_ok]; rfl
    | cons p r =>
      obtain ⟨K, hK⟩ : ∃ K, K = p :: r := ⟨_, rfl⟩
      rw [← hK] at hk hkd ⊢
      have lc : ∀ a0 a1 : Option Sl, lcLoop (lcF GC (callF GC XC M (m - 1)) (E.call 89 (E.cons (E.var 1) E.nil)) (.nm 1) E.nil [a0, a1]) (K.map Part.d) = .ok ((K.map (textP (textK d))).map .str) := fun a0 a1 => by
        rw [List.map_map]
        exact lc_map (i := Part.d) (g := PyData.str ∘ textP (textK d)) (fun q hq => by
          have hqd := kdp_mem hq
          have := part_c ih (hk.parts q hq) (by omega) (by omega) (m := m - 1) (by omega) (by omega)
          unfold lcF
          simp! only [this]
          rfl)
      have k0 : (" | " : Str).length = 3 := by decide +kernel
      have sm := kind_sum (d := d) hk (by omega)
      have jn := jn_c (a := " | ") (ss := K.map (textP (textK d))) (by rw [k0]; omega)
      have tr : (K.map Part.d).isEmpty = false := by rw [hK]; rfl
      have tK : textK (d + 1) K = joinS " | " (K.map (textP (textK d))) := by
        show (if K = [] then _ else _) = _
        rw [if_neg (by rw [hK]; simp)]
      rw [tK]
      simp! only [tr, lc, jn]
end G7

namespace G7
open PySem
local macro_rules | `(tactic| dsimp! only [$xs,*]) => `(tactic| simp only [e_var, e_glob, e_kI, e_kS, e_kB, e_kN, e_tp, e_ls, e_dn, e_op, e_ng, e_cmp, e_chn, e_an, e_orr, e_on, e_nt, e_it, e_ix, e_sl, e_cl, e_bt, e_is, e_lcm, x_nil, x_cons, sq_n, sq_r, sq_c, sq_b, x_asg, x_asgT, x_ret, x_retN, x_if, x_for, x_whl, x_app, x_ext, x_dput, x_pass, x_cont, x_brk, evalA, evalAB, evalC, evalI, bnd, bor, view, read, Env.at, Env.put, b_ok, b_bad, b_exc, b_ite, of_some, of_none, om_some, om_none, ob_some, calm_k, tr_b, tr_n, tr_i, tr_l, tr_t, fl_ret, fl_next, fl_ite, len_s, len_l, len_t, tup_l, int_b, initE, List.map_cons, List.map_nil, List.length_cons, List.length_nil, List.cons_append, List.nil_append, List.replicate, frzE, esc, escA, escB, escAB, escI, escC, op2, add_i, sub_i, cmpD, lt_i, lt_s, is_n, is_b, eq_s, eq_i, tup_at, lst_at, str_at, Sl.d, fresh, isCont, Bool.false_and, Bool.and_false, Bool.true_and, Bool.and_true, if_true, if_false, ite_true, ite_false, Nat.reduceAdd, Nat.reduceSub, bindT, bindT.bindTs, wipeE, Tg.slots, List.any_cons, List.any_nil, isTy, escJ, Bool.or_false, Bool.false_or, Bool.or_true, Bool.true_or, Bool.not_true, Bool.not_false, Bool.false_eq_true, seqD, decide_true, decide_false, nc_lit, eq_self, Int.reduceEq, Nat.reduceEqDiff, and_self, and_true, true_and, $xs,*])
local macro_rules | `(tactic| simp! only [$xs,*]) => `(tactic| simp -implicitDefEqProofs only [e_var, e_glob, e_kI, e_kS, e_kB, e_kN, e_tp, e_ls, e_dn, e_op, e_ng, e_cmp, e_chn, e_an, e_orr, e_on, e_nt, e_it, e_ix, e_sl, e_cl, e_bt, e_is, e_lcm, x_nil, x_cons, sq_n, sq_r, sq_c, sq_b, x_asg, x_asgT, x_ret, x_retN, x_if, x_for, x_whl, x_app, x_ext, x_dput, x_pass, x_cont, x_brk, evalA, evalAB, evalC, evalI, b_ok, b_bad, b_exc, b_ite, of_some, of_none, om_some, om_none, ob_some, calm_k, tr_b, tr_n, tr_i, tr_l, tr_t, fl_ret, fl_next, fl_ite, len_s, len_l, len_t, tup_l, int_b, initE, List.map_cons, List.map_nil, List.length_cons, List.length_nil, List.cons_append, List.nil_append, List.replicate, esc, escA, escB, escAB, escI, escC, op2, add_i, sub_i, cmpD, lt_i, lt_s, is_n, is_b, eq_s, eq_i, tup_at, lst_at, str_at, Sl.d, fresh, isCont, Bool.false_and, Bool.and_false, Bool.true_and, Bool.and_true, if_true, if_false, ite_true, ite_false, Nat.reduceAdd, Nat.reduceSub, Tg.slots, List.any_cons, List.any_nil, isTy, escJ, Bool.or_false, Bool.false_or, Bool.or_true, Bool.true_or, Bool.not_true, Bool.not_false, Bool.false_eq_true, decide_true, decide_false, nc_lit, eq_self, Int.reduceEq, Nat.reduceEqDiff, and_self, and_true, true_and, ofS_inj, String.reduceEq, W_ok, W_ite, b_assoc, bk_r, bk_n, tn_n, tn_c, tn_b, tn_r, decide_eq_true_eq, Bool.not_eq_true', decide_eq_false_iff_not, Nat.add_sub_cancel, List.append_nil, List.not_mem_nil, not_true_eq_false, not_false_eq_true, ownK, ownL, dKey, Bool.true_eq_false, List.mem_cons, or_self, or_false, false_or, List.filter_cons, List.filter_nil, List.contains_cons, List.contains_nil, Nat.reduceBEq, Nat.reduceLeDiff, Int.reduceLT, Int.reduceLE, Int.reduceNeg, Nat.zero_add, bor_var, bnd_kN, bndI, view_s, view_d, view_o, view_l, read_s, read_d, read_o, at_s, at_0, put_s, put_0, frz_nil, frz_cons, frz1_s, frz1_o, frz1_d, frz1_l, frz1_n, bt_nm, bt_tp, bts_nil, bts_cons, wipe_nil, wipe_cons, seq_l, seq_t, seq_s, bq_tt, bq_tf, bq_ft, bq_ff, ad_t, ad_l, ai0, ai1, ai2, ai3, ng_i, int_i, mx_i, mn_i, bor_glob, bor_kI, bor_kS, bor_kB, bor_kN, bor_nil, bor_cons, bor_tup, bor_lst, bor_dnew, bor_dct1, bor_op, bor_neg, bor_cmp, bor_chain, bor_and, bor_or, bor_one, bor_not, bor_ite, bor_idx, bor_slc, bor_call, bor_bt, bor_isi, bor_lc, bnd_glob, bnd_kI, bnd_kS, bnd_kB, bnd_nil, bnd_cons, bnd_tup, bnd_lst, bnd_dnew, bnd_dct1, bnd_op, bnd_neg, bnd_cmp, bnd_chain, bnd_and, bnd_or, bnd_one, bnd_not, bnd_ite, bnd_idx, bnd_slc, bnd_call, bnd_bt, bnd_isi, bnd_lc, bnd_var, $xs,*])
/-! ### kinds written, by the law's own walk -/
theorem fields_text_c {d n : Nat} (ih : WrAt 92 d n) {fs : List Field} {op : Bool} (hp : Part.ok 3 (.record fs op)) (hd : (Part.record fs op).dp ≤ d) (hd5 : (Part.record fs op).dp ≤ 5) {m : Nat} (hm : n + 1 ≤ m) : callF GC XC M m 93 [.tuple [.str "record", .tuple (fs.map fieldT), .bool op]] = .ok (.str (joinS ", " (fs.map (fieldX (textK d)) ++ moreX op))) := by
  have rl := rec_len (d := d) hp hd5
  obtain ⟨h1, h2, h3⟩ := Kok.field hp
  rw [pdp_rec] at hd hd5
  have k0 : (", " : Str).length = 2 := by decide +kernel
  have k1 : (": (" : Str).length = 3 := by decide +kernel
  have k2 : (")" : Str).length = 1 := by decide +kernel
  have jn := jn_c (a := ", ") (ss := fs.map (fieldX (textK d)) ++ moreX op) (by rw [k0]; omega)
  refine C_eq (fn := f__law_fields_text) (by omega) rfl rfl ?_
  unfold f__law_fields_text
  simp! only [W_ok]
  refine W_for (i := fieldT) (l := fs) (fun pre ρ => ∃ o2 o3 o4 o5 : Option Sl, ρ = [some (.dat (.tuple [.str "record", .tuple (fs.map fieldT), .bool op])), some (.own (.list ((pre.map (fieldX (textK d))).map .str))), o2, o3, o4, o5]) ⟨none, none, none, none, rfl⟩ ?_ ?_
  · rintro pre f post ρ hl ⟨o2, o3, o4, o5, rfl⟩
    have hf : f ∈ fs := by rw [hl]; simp
    have prl : pre.length ≤ 3 := by have := congrArg List.length hl; simp at this; omega
    have ly : ((pre.map (fieldX (textK d))).map PyData.str).length < sizeLine := Nat.lt_of_lt_of_le (by rw [List.length_map, List.length_map]; omega : _ < 1000) (by decide)
    have hle : kdp f.2.1 ≤ maxN (fs.map fun f => kdp f.2.1) := le_maxN (List.mem_map.mpr ⟨f, hf, rfl⟩)
    have h5 : 1 + maxN (fs.map fun f => kdp f.2.1) ≤ d := hd
    have h6 : 1 + maxN (fs.map fun f => kdp f.2.1) ≤ 5 := hd5
    have hn := h1.2 f.1 (List.mem_map.mpr ⟨f, hf, rfl⟩)
    have w := ih f.2.1 (m - 1) (Nat.lt_of_le_of_lt hle (by omega)) (h3 f hf) (by omega)
    have l1 := name_len hn
    have l2 := txt_le (d := d) (k := f.2.1) (Nat.le_trans hle (by omega)) (h3 f hf)
    have ap : ∀ t : Str, fieldX (textK d) f = t → (pre.map (fieldX (textK d))).map PyData.str ++ [.str t] = ((pre ++ [f]).map (fieldX (textK d))).map .str := fun t e => by rw [List.map_append, List.map_append, ← e]; rfl
    refine ⟨_, rfl, ?_⟩
    unfold bdF
    cases hmu : f.2.2 with
    | true =>
      have e0 : ("" : Str).length = 0 := by decide +kernel
      have a0 := ad_s (a := f.1) (b := "") (by omega)
      have a1 := ad_s (a := f.1 ++ "") (b := ": (") (by rw [app_len]; omega)
      have a2 := ad_s (a := f.1 ++ "" ++ ": (") (b := textK d f.2.1) (by rw [app_len, app_len]; omega)
      have a3 := ad_s (a := f.1 ++ "" ++ ": (" ++ textK d f.2.1) (b := ")") (by rw [app_len, app_len, app_len]; omega)
      simp! only [w, a0, a1, a2, a3, ly, hmu]
      rw [ap (f.1 ++ "" ++ ": (" ++ textK d f.2.1 ++ ")") (by unfold fieldX; rw [hmu]; rfl)]
      exact ⟨_, _, _, _, rfl⟩
    | false =>
      have e0 : ("?" : Str).length = 1 := by decide +kernel
      have a0 := ad_s (a := f.1) (b := "?") (by omega)
      have a1 := ad_s (a := f.1 ++ "?") (b := ": (") (by rw [app_len]; omega)
      have a2 := ad_s (a := f.1 ++ "?" ++ ": (") (b := textK d f.2.1) (by rw [app_len, app_len]; omega)
      have a3 := ad_s (a := f.1 ++ "?" ++ ": (" ++ textK d f.2.1) (b := ")") (by rw [app_len, app_len, app_len]; omega)
      simp! only [w, a0, a1, a2, a3, ly, hmu]
      rw [ap (f.1 ++ "?" ++ ": (" ++ textK d f.2.1 ++ ")") (by unfold fieldX; rw [hmu]; rfl)]
      exact ⟨_, _, _, _, rfl⟩
  · rintro ρ ⟨o2, o3, o4, o5, rfl⟩
    have ly : ((fs.map (fieldX (textK d))).map PyData.str).length < sizeLine := Nat.lt_of_lt_of_le (by rw [List.length_map, List.length_map]; omega : _ < 1000) (by decide)
    cases op with
    | true =>
      have ap : (fs.map (fieldX (textK d))).map PyData.str ++ [.str "..."] = (fs.map (fieldX (textK d)) ++ moreX true).map .str := by rw [List.map_append]; rfl
      simp! only [ly, ap, jn]
    | false =>
      have ap : (fs.map (fieldX (textK d))).map PyData.str = (fs.map (fieldX (textK d)) ++ moreX false).map .str := by rw [List.map_append]; exact (List.append_nil _).symm
      rw [ap]
      simp! only [jn]
theorem law_written_c : ∀ d : Nat, d ≤ 6 → WrAt 92 d (2 * d + 3) := by
  intro d
  induction d with
  | zero => intro _ k m h; omega
  | succ d ih =>
    intro hd6 K m hkd hk hm
    have ih := ih (by omega)
    have k6 := ordd_len6' hk.ord
    have k0 : (" | " : Str).length = 3 := by decide +kernel
    have sm := kind_sum (d := d) hk (by omega)
    have jn := jn_c (a := " | ") (ss := K.map (textP (textK d))) (by rw [k0]; omega)
    refine C_eq (fn := f__law_written) (by omega) rfl rfl ?_
    unfold f__law_written
    have hkk : kd K = .tuple (K.map Part.d) := rfl
    rw [hkk]
    simp! only [W_ok]
    refine W_for (i := Part.d) (l := K) (fun pre ρ => ∃ o2 : Option Sl, ρ = [some (.dat (.tuple (K.map Part.d))), some (.own (.list ((pre.map (textP (textK d))).map .str))), o2]) ⟨none, rfl⟩ ?_ ?_
    · rintro pre p post ρ hl ⟨o2, rfl⟩
      have hpK : p ∈ K := by rw [hl]; simp
      have hp := hk.parts p hpK
      have hpd := kdp_mem hpK
      have prl : pre.length ≤ 6 := by have := congrArg List.length hl; simp at this; omega
      have ly : ((pre.map (textP (textK d))).map PyData.str).length < sizeLine := Nat.lt_of_lt_of_le (by rw [List.length_map, List.length_map]; omega : _ < 1000) (by decide)
      have ap : ∀ t : Str, textP (textK d) p = t → (pre.map (textP (textK d))).map PyData.str ++ [.str t] = ((pre ++ [p]).map (textP (textK d))).map .str := fun t e => by rw [List.map_append, List.map_append, ← e]; rfl
      refine ⟨_, rfl, ?_⟩
      unfold bdF
      cases p with
      | whole lo hi =>
        cases hp with
        | whole hb _ =>
          obtain ⟨h1, h2⟩ := bnd_sm hb
          have b := ends_c (n := m - 1) (by omega) h1 h2
          have l := bounds_len h1 h2
          have k1 : ("whole" : Str).length = 5 := by decide +kernel
          have k2 : (" " : Str).length = 1 := by decide +kernel
          have q : decide (("whole" : Str) ∈ [("whole" : Str), "text"]) = true := by decide +kernel
          have a1 := ad_s (a := "whole") (b := " ") (by omega)
          have a2 := ad_s (a := ("whole" : Str) ++ " ") (b := boundsT lo hi) (by rw [app_len]; omega)
          rw [Part.d]
          simp! only [in_wt, q, b, a1, a2, ly]
          rw [ap (("whole" : Str) ++ " " ++ boundsT lo hi) rfl]
          exact ⟨_, rfl⟩
      | text lo hi =>
        cases hp with
        | text hb =>
          obtain ⟨h1, h2⟩ := cnt_sm hb
          have b := ends_c (n := m - 1) (by omega) h1 h2
          have b : callF GC XC M (m - 1) 91 [.int lo, optD hi] = .ok (.str (boundsT (some lo) hi)) := b
          have l := bounds_len h1 h2
          have k1 : ("text" : Str).length = 4 := by decide +kernel
          have k2 : (" " : Str).length = 1 := by decide +kernel
          have q : decide (("text" : Str) ∈ [("whole" : Str), "text"]) = true := by decide +kernel
          have a1 := ad_s (a := "text") (b := " ") (by omega)
          have a2 := ad_s (a := ("text" : Str) ++ " ") (b := boundsT (some lo) hi) (by rw [app_len]; omega)
          rw [Part.d]
          simp! only [in_wt, q, b, a1, a2, ly]
          rw [ap (("text" : Str) ++ " " ++ boundsT (some lo) hi) rfl]
          exact ⟨_, rfl⟩
      | truth t =>
        have q : decide (("truth" : Str) ∈ [("whole" : Str), "text"]) = false := by decide +kernel
        have t0 : L2.atI [PyData.str "truth", .str "yes", .str "no"] (0 + 2 * 0) = some (.str "truth") := rfl
        have t1 : L2.atI [PyData.str "truth", .str "yes", .str "no"] (1 + 2 * 0) = some (.str "yes") := rfl
        have t2 : L2.atI [PyData.str "truth", .str "yes", .str "no"] (0 + 2 * 1) = some (.str "no") := rfl
        rw [Part.d]
        cases t with
        | none =>
          unfold optB
          simp! only [in_wt, q, ly, mul_k (k := 2) (by decide), t0, t1, t2]
          rw [ap "truth" rfl]
          exact ⟨_, rfl⟩
        | some b =>
          cases b with
          | true =>
            unfold optB
            simp! only [in_wt, q, ly, mul_k (k := 2) (by decide), t0, t1, t2]
            rw [ap "yes" rfl]
            exact ⟨_, rfl⟩
          | false =>
            unfold optB
            simp! only [in_wt, q, ly, mul_k (k := 2) (by decide), t0, t1, t2]
            rw [ap "no" rfl]
            exact ⟨_, rfl⟩
      | nothing =>
        have q : decide (("nothing" : Str) ∈ [("whole" : Str), "text"]) = false := by decide +kernel
        have q1 : decide (("nothing" : Str) = "truth") = false := by decide +kernel
        have q2 : decide (("nothing" : Str) = "row") = false := by decide +kernel
        have q3 : decide (("nothing" : Str) = "record") = false := by decide +kernel
        rw [Part.d]
        simp! only [in_wt, q, q1, q2, q3, ly]
        rw [ap "nothing" rfl]
        exact ⟨_, rfl⟩
      | row k lo hi =>
        obtain ⟨hk', hc⟩ := Kok.row hp
        obtain ⟨h1, h2⟩ := cnt_sm hc
        rw [pdp_row] at hpd
        have b := ends_c (n := m - 1) (by omega) h1 h2
        have b : callF GC XC M (m - 1) 91 [.int lo, optD hi] = .ok (.str (boundsT (some lo) hi)) := b
        have l := bounds_len h1 h2
        have w := ih k (m - 1) (by omega) hk' (by omega)
        have l2 := txt_le (d := d) (k := k) (by omega) hk'
        have q : decide (("row" : Str) ∈ [("whole" : Str), "text"]) = false := by decide +kernel
        have q1 : decide (("row" : Str) = "truth") = false := by decide +kernel
        have k1 : ("row " : Str).length = 4 := by decide +kernel
        have k2 : (" of (" : Str).length = 5 := by decide +kernel
        have k3 : (")" : Str).length = 1 := by decide +kernel
        have a1 := ad_s (a := "row ") (b := boundsT (some lo) hi) (by omega)
        have a2 := ad_s (a := ("row " : Str) ++ boundsT (some lo) hi) (b := " of (") (by rw [app_len]; omega)
        have a3 := ad_s (a := ("row " : Str) ++ boundsT (some lo) hi ++ " of (") (b := textK d k) (by rw [app_len, app_len]; omega)
        have a4 := ad_s (a := ("row " : Str) ++ boundsT (some lo) hi ++ " of (" ++ textK d k) (b := ")") (by rw [app_len, app_len, app_len]; omega)
        rw [pd_row]
        simp! only [in_wt, q, q1, b, w, a1, a2, a3, a4, ly]
        rw [ap (("row " : Str) ++ boundsT (some lo) hi ++ " of (" ++ textK d k ++ ")") rfl]
        exact ⟨_, rfl⟩
      | record fs op =>
        have rl := rec_len (d := d) hp (by omega)
        have ft := fields_text_c ih hp (by omega) (by omega) (m := m - 1) (by omega)
        have q : decide (("record" : Str) ∈ [("whole" : Str), "text"]) = false := by decide +kernel
        have q1 : decide (("record" : Str) = "truth") = false := by decide +kernel
        have q2 : decide (("record" : Str) = "row") = false := by decide +kernel
        have kc : (", " : Str).length = 2 := by decide +kernel
        have k1 : ("record {" : Str).length = 8 := by decide +kernel
        have k2 : ("}" : Str).length = 1 := by decide +kernel
        have jl := join_len ", " (fs.map (fieldX (textK d)) ++ moreX op)
        rw [kc] at jl
        have a1 := ad_s (a := "record {") (b := joinS ", " (fs.map (fieldX (textK d)) ++ moreX op)) (by omega)
        have a2 := ad_s (a := ("record {" : Str) ++ joinS ", " (fs.map (fieldX (textK d)) ++ moreX op)) (b := "}") (by rw [app_len]; omega)
        rw [pd_rec]
        simp! only [in_wt, q, q1, q2, ft, a1, a2, ly]
        rw [ap (("record {" : Str) ++ joinS ", " (fs.map (fieldX (textK d)) ++ moreX op) ++ "}") rfl]
        exact ⟨_, rfl⟩
    · rintro ρ ⟨o2, rfl⟩
      cases hK : K with
      | nil =>
        simp! only [W_ok]
        rfl
      | cons p r =>
        have tr : ((K.map (textP (textK d))).map PyData.str).isEmpty = false := by rw [hK]; rfl
        have tK : textK (d + 1) K = joinS " | " (K.map (textP (textK d))) := by
          show (if K = [] then _ else _) = _
          rw [if_neg (by rw [hK]; simp)]
        rw [← hK, tK]
        simp! only [tr, jn]
end G7

namespace G7
open PySem
local macro_rules | `(tactic| dsimp! only [$xs,*]) => `(tactic| simp only [e_var, e_glob, e_kI, e_kS, e_kB, e_kN, e_tp, e_ls, e_dn, e_op, e_ng, e_cmp, e_chn, e_an, e_orr, e_on, e_nt, e_it, e_ix, e_sl, e_cl, e_bt, e_is, e_lcm, x_nil, x_cons, sq_n, sq_r, sq_c, sq_b, x_asg, x_asgT, x_ret, x_retN, x_if, x_for, x_whl, x_app, x_ext, x_dput, x_pass, x_cont, x_brk, evalA, evalAB, evalC, evalI, bnd, bor, view, read, Env.at, Env.put, b_ok, b_bad, b_exc, b_ite, of_some, of_none, om_some, om_none, ob_some, calm_k, tr_b, tr_n, tr_i, tr_l, tr_t, fl_ret, fl_next, fl_ite, len_s, len_l, len_t, tup_l, int_b, initE, List.map_cons, List.map_nil, List.length_cons, List.length_nil, List.cons_append, List.nil_append, List.replicate, frzE, esc, escA, escB, escAB, escI, escC, op2, add_i, sub_i, cmpD, lt_i, lt_s, is_n, is_b, eq_s, eq_i, tup_at, lst_at, str_at, Sl.d, fresh, isCont, Bool.false_and, Bool.and_false, Bool.true_and, Bool.and_true, if_true, if_false, ite_true, ite_false, Nat.reduceAdd, Nat.reduceSub, bindT, bindT.bindTs, wipeE, Tg.slots, List.any_cons, List.any_nil, isTy, escJ, Bool.or_false, Bool.false_or, Bool.or_true, Bool.true_or, Bool.not_true, Bool.not_false, Bool.false_eq_true, seqD, decide_true, decide_false, nc_lit, eq_self, Int.reduceEq, Nat.reduceEqDiff, and_self, and_true, true_and, $xs,*])
local macro_rules | `(tactic| simp! only [$xs,*]) => `(tactic| simp -implicitDefEqProofs only [e_var, e_glob, e_kI, e_kS, e_kB, e_kN, e_tp, e_ls, e_dn, e_op, e_ng, e_cmp, e_chn, e_an, e_orr, e_on, e_nt, e_it, e_ix, e_sl, e_cl, e_bt, e_is, e_lcm, x_nil, x_cons, sq_n, sq_r, sq_c, sq_b, x_asg, x_asgT, x_ret, x_retN, x_if, x_for, x_whl, x_app, x_ext, x_dput, x_pass, x_cont, x_brk, evalA, evalAB, evalC, evalI, b_ok, b_bad, b_exc, b_ite, of_some, of_none, om_some, om_none, ob_some, calm_k, tr_b, tr_n, tr_i, tr_l, tr_t, fl_ret, fl_next, fl_ite, len_s, len_l, len_t, tup_l, int_b, initE, List.map_cons, List.map_nil, List.length_cons, List.length_nil, List.cons_append, List.nil_append, List.replicate, esc, escA, escB, escAB, escI, escC, op2, add_i, sub_i, cmpD, lt_i, lt_s, is_n, is_b, eq_s, eq_i, tup_at, lst_at, str_at, Sl.d, fresh, isCont, Bool.false_and, Bool.and_false, Bool.true_and, Bool.and_true, if_true, if_false, ite_true, ite_false, Nat.reduceAdd, Nat.reduceSub, Tg.slots, List.any_cons, List.any_nil, isTy, escJ, Bool.or_false, Bool.false_or, Bool.or_true, Bool.true_or, Bool.not_true, Bool.not_false, Bool.false_eq_true, decide_true, decide_false, nc_lit, eq_self, Int.reduceEq, Nat.reduceEqDiff, and_self, and_true, true_and, ofS_inj, String.reduceEq, W_ok, W_ite, b_assoc, bk_r, bk_n, tn_n, tn_c, tn_b, tn_r, decide_eq_true_eq, Bool.not_eq_true', decide_eq_false_iff_not, Nat.add_sub_cancel, List.append_nil, List.not_mem_nil, not_true_eq_false, not_false_eq_true, ownK, ownL, dKey, Bool.true_eq_false, List.mem_cons, or_self, or_false, false_or, List.filter_cons, List.filter_nil, List.contains_cons, List.contains_nil, Nat.reduceBEq, Nat.reduceLeDiff, Int.reduceLT, Int.reduceLE, Int.reduceNeg, Nat.zero_add, bor_var, bnd_kN, bndI, view_s, view_d, view_o, view_l, read_s, read_d, read_o, at_s, at_0, put_s, put_0, frz_nil, frz_cons, frz1_s, frz1_o, frz1_d, frz1_l, frz1_n, bt_nm, bt_tp, bts_nil, bts_cons, wipe_nil, wipe_cons, seq_l, seq_t, seq_s, bq_tt, bq_tf, bq_ft, bq_ff, ad_t, ad_l, ai0, ai1, ai2, ai3, ng_i, int_i, mx_i, mn_i, bor_glob, bor_kI, bor_kS, bor_kB, bor_kN, bor_nil, bor_cons, bor_tup, bor_lst, bor_dnew, bor_dct1, bor_op, bor_neg, bor_cmp, bor_chain, bor_and, bor_or, bor_one, bor_not, bor_ite, bor_idx, bor_slc, bor_call, bor_bt, bor_isi, bor_lc, bnd_glob, bnd_kI, bnd_kS, bnd_kB, bnd_nil, bnd_cons, bnd_tup, bnd_lst, bnd_dnew, bnd_dct1, bnd_op, bnd_neg, bnd_cmp, bnd_chain, bnd_and, bnd_or, bnd_one, bnd_not, bnd_ite, bnd_idx, bnd_slc, bnd_call, bnd_bt, bnd_isi, bnd_lc, bnd_var, $xs,*])
theorem same_txt {n : Nat} (hn : 1 ≤ n) (s : Str) : callF GC XC M n 45 [.str s, .str s] = .ok (.bool true) := by
  refine C_eq (fn := f__law_same) (by omega) rfl rfl ?_
  unfold f__law_same
  simp! only [List.any]
theorem pow_c {a b : Int} (h : 0 ≤ b ∧ b ≤ 1000000 ∧ a.natAbs < 2 ^ 64) : powD (.int a) (.int b) = some (.int (a ^ b.toNat)) := if_pos h
theorem app_assoc (a b c : Str) : a ++ b ++ c = a ++ (b ++ c) := by
  show Str.mk (a.cps ++ b.cps ++ c.cps) = Str.mk (a.cps ++ (b.cps ++ c.cps))
  rw [Array.append_assoc]
theorem of_app (a b : String) : Str.ofString (a ++ b) = Str.ofString a ++ Str.ofString b := by
  rw [Str.ofString_eq_toList, Str.ofString_eq_toList, Str.ofString_eq_toList]
  show Str.mk _ = Str.mk _
  rw [String.toList_append, List.map_append]
  simp
theorem neg_text (m : Nat) : endT (some (-((m + 1 : Nat) : Int))) = "-" ++ endT (some ((m + 1 : Nat) : Int)) := by
  show Str.ofString (toString (Int.negSucc m)) = Str.ofString "-" ++ Str.ofString (toString (Int.ofNat (m + 1)))
  rw [← of_app]
  rfl
theorem great_c {n m : Nat} (hn : 5 ≤ n) (h : smI ((m + 1 : Nat) : Int)) : callF GC XC M n 90 [.tuple [.tuple [.str "whole", .int (-((m + 1 : Nat) : Int)), .int ((m + 1 : Nat) : Int)]]] = .ok (.str (("whole -" : Str) ++ endT (some ((m + 1 : Nat) : Int)) ++ ".." ++ endT (some ((m + 1 : Nat) : Int)))) := by
  have h' : smI (-((m + 1 : Nat) : Int)) := by unfold smI at h ⊢; rw [Int.natAbs_neg]; exact h
  have s1 : ∀ i, some (-((m + 1 : Nat) : Int)) = some i → smI i := fun i e => by cases e; exact h'
  have s2 : ∀ i, some ((m + 1 : Nat) : Int) = some i → smI i := fun i e => by cases e; exact h
  have w := whole_c (n := n - 1) (by omega) s1 s2
  have w : callF GC XC M (n - 1) 89 [.tuple [.str "whole", .int (-((m + 1 : Nat) : Int)), .int ((m + 1 : Nat) : Int)]] = .ok (.str (("whole" : Str) ++ " " ++ boundsT (some (-((m + 1 : Nat) : Int))) (some ((m + 1 : Nat) : Int)))) := w
  have bl := bounds_len s1 s2
  have te : ("whole" : Str) ++ " " ++ boundsT (some (-((m + 1 : Nat) : Int))) (some ((m + 1 : Nat) : Int)) = ("whole -" : Str) ++ endT (some ((m + 1 : Nat) : Int)) ++ ".." ++ endT (some ((m + 1 : Nat) : Int)) := by
    unfold boundsT
    rw [neg_text]
    have e : ("whole -" : Str) = "whole" ++ " " ++ "-" := by decide +kernel
    rw [e]
    simp only [app_assoc]
  have k1 : ("whole" : Str).length = 5 := by decide +kernel
  have k2 : (" " : Str).length = 1 := by decide +kernel
  have k0 : (" | " : Str).length = 3 := by decide +kernel
  have tl : (("whole" : Str) ++ " " ++ boundsT (some (-((m + 1 : Nat) : Int))) (some ((m + 1 : Nat) : Int))).length ≤ 100 := by rw [app_len, app_len]; omega
  rw [te] at w tl
  generalize ("whole -" : Str) ++ endT (some ((m + 1 : Nat) : Int)) ++ ".." ++ endT (some ((m + 1 : Nat) : Int)) = t at *
  have lc : ∀ a0 a1 : Option Sl, lcLoop (lcF GC (callF GC XC M (n - 1)) (E.call 89 (E.cons (E.var 1) E.nil)) (.nm 1) E.nil [a0, a1]) [.tuple [.str "whole", .int (-((m + 1 : Nat) : Int)), .int ((m + 1 : Nat) : Int)]] = .ok ([t].map .str) := fun a0 a1 => by
    have := lc_mapD (f := lcF GC (callF GC XC M (n - 1)) (E.call 89 (E.cons (E.var 1) E.nil)) (.nm 1) E.nil [a0, a1]) (g := fun _ => PyData.str t) (l := [.tuple [.str "whole", .int (-((m + 1 : Nat) : Int)), .int ((m + 1 : Nat) : Int)]]) (fun d hd => by
      rw [List.mem_singleton.mp hd]
      unfold lcF
      simp! only [w])
    exact this
  have jn := jn_c (a := " | ") (ss := [t]) (by rw [k0]; simp; omega)
  have jn : btD .join [.str " | ", .list ([t].map .str)] = some (.str t) := jn
  refine C_eq (fn := f_written) (by omega) rfl rfl ?_
  unfold f_written
  simp! only [W_ok]
  rw [lc]
  show W ((Res.of (btD .join [.str " | ", .list ([t].map .str)])).bind _) _
  rw [jn]
  simp! only [W_ok]
def fuel : Nat := 60
theorem pure_law : ∀ ns : List Int, ns.length ≤ 63 → callF GC XC M fuel 94 [intsD' ns] = .ok (.bool true) := by
  intro ns _
  refine C_eq (fn := f_law_v9) (by decide) rfl rfl ?_
  show W (exec GC (callF GC XC M 59) XC f_law_v9.body _) _
  unfold f_law_v9
  have r8 : rngOk 0 8 = true := by decide
  have wr := written_c 5 (by omega)
  have lw := law_written_c 5 (by omega)
  simp! only [r8, rng0]
  refine W_for (i := fun k : Nat => PyData.int (k : Int)) (l := List.range (8 : Int).toNat) (fun p ρ => ∃ (a b c d e f : Option Sl), ρ = [some (.dat (intsD' ns)), a, b, c, d, e, f]) ⟨_, _, _, _, _, _, rfl⟩ ?_ ?_
  · rintro p x q ρ hl ⟨a1, a2, a3, a4, a5, a6, rfl⟩
    have c1 := cell_c (n := 59) (by omega) ns x
    generalize hc : ns.getD x 0 + 3 * (x : Int) = c at *
    obtain ⟨k1, e1, e2, e3⟩ := law_kind 4 c 59 (by omega)
    have e1 : callF GC XC M 59 28 [.int c, .int 4] = .ok (.tuple (k1.map Part.d)) := e1
    have lc : ∀ a0 a1 a2 a3 a4 a5 a6 : Option Sl, lcLoop (lcF GC (callF GC XC M 59) (E.tup (E.cons (E.var 6) E.nil)) (.nm 6) E.nil [a0, a1, a2, a3, a4, a5, a6]) (k1.map Part.d) = .ok ((k1.map fun p => [p]).map kd) := fun a0 a1 a2 a3 a4 a5 a6 => by
      rw [List.map_map]
      exact lc_map (i := Part.d) (g := kd ∘ fun p => [p]) (l := k1) (fun p _ => by
        unfold lcF
        simp! only [W_ok]
        rfl)
    have kl := ordd_len6' e2.ord
    obtain ⟨l2, hl2⟩ : ∃ l2, l2 = k1 :: k1.map fun p => [p] := ⟨_, rfl⟩
    have ad : addD (.list [.tuple (k1.map Part.d)]) (.list ((k1.map fun p => [p]).map kd)) = some (.list (l2.map kd)) := by
      rw [hl2]
      exact ad_l (by simp; omega)
    have ks : ∀ q ∈ l2, Kok 3 q ∧ kdp q ≤ 4 := fun q hq => by
      rw [hl2] at hq
      rcases List.mem_cons.mp hq with rfl | hq
      · exact ⟨e2, e3⟩
      · obtain ⟨p, hp, rfl⟩ := List.mem_map.mp hq
        refine ⟨⟨List.pairwise_singleton _ _, fun r hr => by rw [List.mem_singleton.mp hr]; exact e2.parts p hp⟩, ?_⟩
        have := kdp_mem hp
        refine Nat.le_trans (kdp_le fun r hr => ?_) e3
        rw [List.mem_singleton.mp hr]
        exact this
    refine ⟨_, rfl, ?_⟩
    unfold bdF
    simp! only [c1, mul_k (k := 3) (by decide), hc, e1, lc, ad]
    refine W_for (i := kd) (l := l2) (fun p ρ => ∃ (a b c d e f : Option Sl), ρ = [some (.dat (intsD' ns)), a, b, c, d, e, f]) ⟨_, _, _, _, _, _, rfl⟩ ?_ ?_
    · rintro p' o q' ρ hl3 ⟨b1, b2, b3, b4, b5, b6, rfl⟩
      obtain ⟨ho, hod⟩ := ks o (by rw [hl3]; simp)
      have w1 := wr o 59 (by omega) ho (by omega)
      have w2 := lw o 59 (by omega) ho (by omega)
      have sm := same_txt (n := 59) (by omega) (textK 5 o)
      refine ⟨_, rfl, ?_⟩
      unfold bdF
      simp! only [w1, w2, sm]
      exact ⟨_, _, _, _, _, _, rfl⟩
    · rintro ρ ⟨b1, b2, b3, b4, b5, b6, rfl⟩
      simp! only [W_ok]
      exact ⟨_, _, _, _, _, _, rfl⟩
  · rintro ρ ⟨a1, a2, a3, a4, a5, a6, rfl⟩
    have c8 := cell_c (n := 59) (by omega) ns 8
    have c8 : callF GC XC M 59 7 [intsD' ns, .int 8] = .ok (.int (ns.getD 8 0)) := c8
    obtain ⟨b, m1, b0, b1⟩ := mix_x (n := 59) (by omega) (ns.getD 8 0) 9811 99 (by omega) (by omega)
    have pw : powD (.int 10) (.int 30) = some (.int 1000000000000000000000000000000) := by
      rw [pow_c ⟨by decide, by decide, by decide⟩, show (10 : Int) ^ (30 : Int).toNat = 1000000000000000000000000000000 from by decide +kernel]
    obtain ⟨m, hm⟩ : ∃ m : Nat, (1000000000000000000000000000000 : Int) + b = ((m + 1 : Nat) : Int) := ⟨(999999999999999999999999999999 + b).toNat, by omega⟩
    have sm : smI ((m + 1 : Nat) : Int) := by
      unfold smI
      have : ((m + 1 : Nat) : Int).natAbs = m + 1 := rfl
      rw [this]
      have : m + 1 < 10000000000000000000000000000000000000000 := by omega
      exact this
    have gr := great_c (n := 59) (by omega) sm
    have st := str_c sm
    have el := end_len (o := some ((m + 1 : Nat) : Int)) (fun i e => by cases e; exact sm)
    generalize hT : endT (some ((m + 1 : Nat) : Int)) = T at *
    generalize ((m + 1 : Nat) : Int) = g at *
    have k1 : ("whole -" : Str).length = 7 := by decide +kernel
    have k2 : (".." : Str).length = 2 := by decide +kernel
    have d1 := ad_s (a := "whole -") (b := T) (by omega)
    have d2 := ad_s (a := ("whole -" : Str) ++ T) (b := "..") (by rw [app_len]; omega)
    have d3 := ad_s (a := ("whole -" : Str) ++ T ++ "..") (b := T) (by rw [app_len, app_len]; omega)
    have n1 := wr [] 59 (by decide) ⟨List.Pairwise.nil, fun p hp => by cases hp⟩ (by omega)
    have n1 : callF GC XC M 59 90 [.tuple []] = .ok (.str "never") := n1
    have kd1 : kdp [Part.record [] true] ≤ 1 := kdp_le fun r hr => by rw [List.mem_singleton.mp hr, pdp_rec]; decide
    have n2 := wr [.record [] true] 59 (by omega) ⟨List.pairwise_singleton _ _, fun p hp => by rw [List.mem_singleton.mp hp]; exact .record ⟨List.Pairwise.nil, fun x hx => by cases hx⟩ (by simp) (fun f hf => by cases hf) (fun f hf => by cases hf)⟩ (by omega)
    have tx : textK 5 [.record [] true] = "record {...}" := by decide +kernel
    rw [tx] at n2
    have kk : kd [.record [] true] = .tuple [.tuple [.str "record", .tuple [], .bool true]] := by
      show PyData.tuple [(Part.record [] true).d] = _
      rw [pd_rec]
      rfl
    rw [kk] at n2
    simp! only [c8, m1, pw, hm, gr, st, d1, d2, d3, n1, n2]
end G7

namespace G7
open L2 PyProof.Rows PySem.Spec PySem
local macro_rules | `(tactic| dsimp! only [$xs,*]) => `(tactic| simp only [e_var, e_glob, e_kI, e_kS, e_kB, e_kN, e_tp, e_ls, e_dn, e_op, e_ng, e_cmp, e_chn, e_an, e_orr, e_on, e_nt, e_it, e_ix, e_sl, e_cl, e_bt, e_is, e_lcm, x_nil, x_cons, sq_n, sq_r, sq_c, sq_b, x_asg, x_asgT, x_ret, x_retN, x_if, x_for, x_whl, x_app, x_ext, x_dput, x_pass, x_cont, x_brk, evalA, evalAB, evalC, evalI, bnd, bor, view, read, Env.at, Env.put, b_ok, b_bad, b_exc, b_ite, of_some, of_none, om_some, om_none, ob_some, calm_k, tr_b, tr_n, tr_i, tr_l, tr_t, fl_ret, fl_next, fl_ite, len_s, len_l, len_t, tup_l, int_b, initE, List.map_cons, List.map_nil, List.length_cons, List.length_nil, List.cons_append, List.nil_append, List.replicate, frzE, esc, escA, escB, escAB, escI, escC, op2, add_i, sub_i, cmpD, lt_i, lt_s, is_n, is_b, eq_s, eq_i, tup_at, lst_at, str_at, Sl.d, fresh, isCont, Bool.false_and, Bool.and_false, Bool.true_and, Bool.and_true, if_true, if_false, ite_true, ite_false, Nat.reduceAdd, Nat.reduceSub, bindT, bindT.bindTs, wipeE, Tg.slots, List.any_cons, List.any_nil, isTy, escJ, Bool.or_false, Bool.false_or, Bool.or_true, Bool.true_or, Bool.not_true, Bool.not_false, Bool.false_eq_true, seqD, decide_true, decide_false, nc_lit, eq_self, Int.reduceEq, Nat.reduceEqDiff, and_self, and_true, true_and, $xs,*])
local macro_rules | `(tactic| simp! only [$xs,*]) => `(tactic| simp -implicitDefEqProofs only [e_var, e_glob, e_kI, e_kS, e_kB, e_kN, e_tp, e_ls, e_dn, e_op, e_ng, e_cmp, e_chn, e_an, e_orr, e_on, e_nt, e_it, e_ix, e_sl, e_cl, e_bt, e_is, e_lcm, x_nil, x_cons, sq_n, sq_r, sq_c, sq_b, x_asg, x_asgT, x_ret, x_retN, x_if, x_for, x_whl, x_app, x_ext, x_dput, x_pass, x_cont, x_brk, evalA, evalAB, evalC, evalI, b_ok, b_bad, b_exc, b_ite, of_some, of_none, om_some, om_none, ob_some, calm_k, tr_b, tr_n, tr_i, tr_l, tr_t, fl_ret, fl_next, fl_ite, len_s, len_l, len_t, tup_l, int_b, initE, List.map_cons, List.map_nil, List.length_cons, List.length_nil, List.cons_append, List.nil_append, List.replicate, esc, escA, escB, escAB, escI, escC, op2, add_i, sub_i, cmpD, lt_i, lt_s, is_n, is_b, eq_s, eq_i, tup_at, lst_at, str_at, Sl.d, fresh, isCont, Bool.false_and, Bool.and_false, Bool.true_and, Bool.and_true, if_true, if_false, ite_true, ite_false, Nat.reduceAdd, Nat.reduceSub, Tg.slots, List.any_cons, List.any_nil, isTy, escJ, Bool.or_false, Bool.false_or, Bool.or_true, Bool.true_or, Bool.not_true, Bool.not_false, Bool.false_eq_true, decide_true, decide_false, nc_lit, eq_self, Int.reduceEq, Nat.reduceEqDiff, and_self, and_true, true_and, ofS_inj, String.reduceEq, W_ok, W_ite, b_assoc, bk_r, bk_n, tn_n, tn_c, tn_b, tn_r, decide_eq_true_eq, Bool.not_eq_true', decide_eq_false_iff_not, Nat.add_sub_cancel, List.append_nil, List.not_mem_nil, not_true_eq_false, not_false_eq_true, ownK, ownL, dKey, Bool.true_eq_false, List.mem_cons, or_self, or_false, false_or, List.filter_cons, List.filter_nil, List.contains_cons, List.contains_nil, Nat.reduceBEq, Nat.reduceLeDiff, Int.reduceLT, Int.reduceLE, Int.reduceNeg, Nat.zero_add, bor_var, bnd_kN, bndI, view_s, view_d, view_o, view_l, read_s, read_d, read_o, at_s, at_0, put_s, put_0, frz_nil, frz_cons, frz1_s, frz1_o, frz1_d, frz1_l, frz1_n, bt_nm, bt_tp, bts_nil, bts_cons, wipe_nil, wipe_cons, seq_l, seq_t, seq_s, bq_tt, bq_tf, bq_ft, bq_ff, ad_t, ad_l, ai0, ai1, ai2, ai3, ng_i, int_i, mx_i, mn_i, bor_glob, bor_kI, bor_kS, bor_kB, bor_kN, bor_nil, bor_cons, bor_tup, bor_lst, bor_dnew, bor_dct1, bor_op, bor_neg, bor_cmp, bor_chain, bor_and, bor_or, bor_one, bor_not, bor_ite, bor_idx, bor_slc, bor_call, bor_bt, bor_isi, bor_lc, bnd_glob, bnd_kI, bnd_kS, bnd_kB, bnd_nil, bnd_cons, bnd_tup, bnd_lst, bnd_dnew, bnd_dct1, bnd_op, bnd_neg, bnd_cmp, bnd_chain, bnd_and, bnd_or, bnd_one, bnd_not, bnd_ite, bnd_idx, bnd_slc, bnd_call, bnd_bt, bnd_isi, bnd_lc, bnd_var, $xs,*])
def top (i : Nat) : Stmt := PySem.Challenge.pw_partfaces_k10_written_kinds.main.body.getD i (.Pass ⟨0, 0, 0, 0⟩)
def d_1 : He.FnD := ⟨("bound_text", none), "bound_text", "bound_text", defArgs (top 1), defBody (top 1), defScope (top 1)⟩
def l_1 : LD := ⟨86, d_1, ["bound"], ["bound"]⟩
def d_2 : He.FnD := ⟨("bounds_text", none), "bounds_text", "bounds_text", defArgs (top 2), defBody (top 2), defScope (top 2)⟩
def l_2 : LD := ⟨87, d_2, ["bounds"], ["bounds"]⟩
def d_3 : He.FnD := ⟨("field_text", none), "field_text", "field_text", defArgs (top 3), defBody (top 3), defScope (top 3)⟩
def l_3 : LD := ⟨88, d_3, ["field"], ["field", "name", "kind", "must"]⟩
def d_4 : He.FnD := ⟨("part_text", none), "part_text", "part_text", defArgs (top 4), defBody (top 4), defScope (top 4)⟩
def l_4 : LD := ⟨89, d_4, ["part"], ["part", "word", "field"]⟩
def d_5 : He.FnD := ⟨("written", none), "written", "written", defArgs (top 5), defBody (top 5), defScope (top 5)⟩
def l_5 : LD := ⟨90, d_5, ["kind"], ["kind", "part"]⟩
def d_7 : He.FnD := ⟨("_law_cell", none), "_law_cell", "_law_cell", defArgs (top 7), defBody (top 7), defScope (top 7)⟩
def l_7 : LD := ⟨7, d_7, ["script", "k"], ["script", "k"]⟩
def d_8 : He.FnD := ⟨("_law_mix", none), "_law_mix", "_law_mix", defArgs (top 8), defBody (top 8), defScope (top 8)⟩
def l_8 : LD := ⟨8, d_8, ["cell", "prime", "many"], ["cell", "prime", "many"]⟩
def d_9 : He.FnD := ⟨("_law_same", none), "_law_same", "_law_same", defArgs (top 9), defBody (top 9), defScope (top 9)⟩
def l_9 : LD := ⟨45, d_9, ["found", "due"], ["found", "due", "one", "other"]⟩
def d_10 : He.FnD := ⟨("_law_name", none), "_law_name", "_law_name", defArgs (top 10), defBody (top 10), defScope (top 10)⟩
def l_10 : LD := ⟨9, d_10, ["cell"], ["cell", "signs", "k"]⟩
def d_11 : He.FnD := ⟨("_law_bounds", none), "_law_bounds", "_law_bounds", defArgs (top 11), defBody (top 11), defScope (top 11)⟩
def l_11 : LD := ⟨25, d_11, ["cell", "low", "high"], ["cell", "low", "high", "one", "other"]⟩
def d_12 : He.FnD := ⟨("_law_fields", none), "_law_fields", "_law_fields", defArgs (top 12), defBody (top 12), defScope (top 12)⟩
def l_12 : LD := ⟨26, d_12, ["cell", "deep"], ["cell", "deep", "found", "k", "name"]⟩
def d_13 : He.FnD := ⟨("_law_part", none), "_law_part", "_law_part", defArgs (top 13), defBody (top 13), defScope (top 13)⟩
def l_13 : LD := ⟨27, d_13, ["cell", "sort", "deep"], ["cell", "sort", "deep", "low", "high"]⟩
def d_14 : He.FnD := ⟨("_law_kind", none), "_law_kind", "_law_kind", defArgs (top 14), defBody (top 14), defScope (top 14)⟩
def l_14 : LD := ⟨28, d_14, ["cell", "deep"], ["cell", "deep", "sorts", "found", "k", "sort"]⟩
def d_15 : He.FnD := ⟨("_law_ends", none), "_law_ends", "_law_ends", defArgs (top 15), defBody (top 15), defScope (top 15)⟩
def l_15 : LD := ⟨91, d_15, ["low", "high"], ["low", "high", "found"]⟩
def d_16 : He.FnD := ⟨("_law_written", none), "_law_written", "_law_written", defArgs (top 16), defBody (top 16), defScope (top 16)⟩
def l_16 : LD := ⟨92, d_16, ["kind"], ["kind", "found", "part"]⟩
def d_17 : He.FnD := ⟨("_law_fields_text", none), "_law_fields_text", "_law_fields_text", defArgs (top 17), defBody (top 17), defScope (top 17)⟩
def l_17 : LD := ⟨93, d_17, ["part"], ["part", "words", "name", "inner", "must", "mark"]⟩
def d_18 : He.FnD := ⟨("law", none), "law", "law", defArgs (top 18), defBody (top 18), defScope (top 18)⟩
def l_18 : LD := ⟨94, d_18, ["script"], ["script", "k", "great", "cell", "kind", "one", "part"]⟩
def LL : List LD := [l_1, l_2, l_3, l_4, l_5, l_7, l_8, l_9, l_10, l_11, l_12, l_13, l_14, l_15, l_16, l_17, l_18]
def nmF : Nat → Str
  | 86 => "bound_text"
  | 87 => "bounds_text"
  | 88 => "field_text"
  | 89 => "part_text"
  | 90 => "written"
  | 7 => "_law_cell"
  | 8 => "_law_mix"
  | 45 => "_law_same"
  | 9 => "_law_name"
  | 25 => "_law_bounds"
  | 26 => "_law_fields"
  | 27 => "_law_part"
  | 28 => "_law_kind"
  | 91 => "_law_ends"
  | 92 => "_law_written"
  | 93 => "_law_fields_text"
  | 94 => "law"
  | _ => ""
def nmG : Nat → Str
  | _ => ""
def nms : Nms := ⟨nmF, nmG, LL.map (·.f), [], [], false, XC, [], false⟩
theorem c_1 : chkFn nms M l_1 = true := by kernel_rfl
theorem c_2 : chkFn nms M l_2 = true := by kernel_rfl
theorem c_3 : chkFn nms M l_3 = true := by kernel_rfl
theorem c_4 : chkFn nms M l_4 = true := by kernel_rfl
theorem c_5 : chkFn nms M l_5 = true := by kernel_rfl
theorem c_7 : chkFn nms M l_7 = true := by kernel_rfl
theorem c_8 : chkFn nms M l_8 = true := by kernel_rfl
theorem c_9 : chkFn nms M l_9 = true := by kernel_rfl
theorem c_10 : chkFn nms M l_10 = true := by kernel_rfl
theorem c_11 : chkFn nms M l_11 = true := by kernel_rfl
theorem c_12 : chkFn nms M l_12 = true := by kernel_rfl
theorem c_13 : chkFn nms M l_13 = true := by kernel_rfl
theorem c_14 : chkFn nms M l_14 = true := by kernel_rfl
theorem c_15 : chkFn nms M l_15 = true := by kernel_rfl
theorem c_16 : chkFn nms M l_16 = true := by kernel_rfl
theorem c_17 : chkFn nms M l_17 = true := by kernel_rfl
theorem c_18 : chkFn nms M l_18 = true := by kernel_rfl
theorem b_1 : BindOk l_1 := fun _ _ _ _ _ _ us hl => match us, hl with | [_], _ => rfl
theorem b_2 : BindOk l_2 := fun _ _ _ _ _ _ us hl => match us, hl with | [_], _ => rfl
theorem b_3 : BindOk l_3 := fun _ _ _ _ _ _ us hl => match us, hl with | [_], _ => rfl
theorem b_4 : BindOk l_4 := fun _ _ _ _ _ _ us hl => match us, hl with | [_], _ => rfl
theorem b_5 : BindOk l_5 := fun _ _ _ _ _ _ us hl => match us, hl with | [_], _ => rfl
theorem b_7 : BindOk l_7 := fun _ _ _ _ _ _ us hl => match us, hl with | [_, _], _ => rfl
theorem b_8 : BindOk l_8 := fun _ _ _ _ _ _ us hl => match us, hl with | [_, _, _], _ => rfl
theorem b_9 : BindOk l_9 := fun _ _ _ _ _ _ us hl => match us, hl with | [_, _], _ => rfl
theorem b_10 : BindOk l_10 := fun _ _ _ _ _ _ us hl => match us, hl with | [_], _ => rfl
theorem b_11 : BindOk l_11 := fun _ _ _ _ _ _ us hl => match us, hl with | [_, _, _], _ => rfl
theorem b_12 : BindOk l_12 := fun _ _ _ _ _ _ us hl => match us, hl with | [_, _], _ => rfl
theorem b_13 : BindOk l_13 := fun _ _ _ _ _ _ us hl => match us, hl with | [_, _, _], _ => rfl
theorem b_14 : BindOk l_14 := fun _ _ _ _ _ _ us hl => match us, hl with | [_, _], _ => rfl
theorem b_15 : BindOk l_15 := fun _ _ _ _ _ _ us hl => match us, hl with | [_, _], _ => rfl
theorem b_16 : BindOk l_16 := fun _ _ _ _ _ _ us hl => match us, hl with | [_], _ => rfl
theorem b_17 : BindOk l_17 := fun _ _ _ _ _ _ us hl => match us, hl with | [_], _ => rfl
theorem b_18 : BindOk l_18 := fun _ _ _ _ _ _ us hl => match us, hl with | [_], _ => rfl
def fn : List He.FnD := LL.map (·.d)
def fa : List He.Fa := [.glo "bound_text", .glo "bounds_text", .glo "field_text", .glo "part_text", .glo "written", .glo "_law_cell", .glo "_law_mix", .glo "_law_same", .glo "_law_name", .glo "_law_bounds", .glo "_law_fields", .glo "_law_part", .glo "_law_kind", .glo "_law_ends", .glo "_law_written", .glo "_law_fields_text", .glo "law", .keep "bound_text", .keep "bounds_text", .keep "field_text", .keep "part_text", .keep "written", .keep "_law_cell", .keep "_law_mix", .keep "_law_same", .keep "_law_name", .keep "_law_bounds", .keep "_law_fields", .keep "_law_part", .keep "_law_kind", .keep "_law_ends", .keep "_law_written", .keep "_law_fields_text", .keep "law", .free "len", .free "all", .free "any", .free "tuple", .free "list", .free "sorted", .free "dict", .free "int", .free "str", .free "min", .free "max", .free "isinstance", .free "range", .free "enumerate", .free "zip", .free "set", .free "bool"]
def exK0 (K : PySem.W.Frag) : Bool := noList K
def exK1 (K : PySem.W.Frag) : Bool := exK0 K
def exK (K : PySem.W.Frag) : Bool := exK1 K && (tabCP K "law").isSome
theorem exK_1 {K : PySem.W.Frag} (e : exK K = true) : exK1 K = true := by unfold exK at e; simp only [Bool.and_eq_true] at e; exact e.1
theorem exK_0 {K : PySem.W.Frag} (e : exK K = true) : exK0 K = true := by have e := exK_1 e; unfold exK1 at e; exact e
abbrev R : PySem.W.OpenRow := PySem.W.OpenLaw.row PySem.Challenge.rw_partfaces_k10_written_kinds
abbrev hk : PySem.W.Hook := hookH 2 fa fn exK
def ob (s : PySem.W.SharedT) : He.Al × Bool := obsH 2 fa fn exK (HandSHeadRun.getT s)
theorem ob_eq (s : PySem.W.SharedT) : ob s = hk.obs s.abs := obsH_eq (HandSHeadRun.getT_eq s)
def names0 : List PySem.Str := ["bound_text", "bounds_text", "field_text", "part_text", "written", "_law_cell", "_law_mix", "_law_same", "_law_name", "_law_bounds", "_law_fields", "_law_part", "_law_kind", "_law_ends", "_law_written", "_law_fields_text"]
def names : List PySem.Str := names0
theorem run_ok (w : World) : HandSHeadRun.RunEq R (PySem.W.view R.prog [18]) hk ob 4000 names w := by
  intro os
  kernel_rfl
theorem chk_all : ∀ x ∈ LL, chkFn nms M x = true := by
  intro x hx
  simp only [LL, List.mem_cons, List.not_mem_nil, or_false] at hx
  rcases hx with rfl | rfl | rfl | rfl | rfl | rfl | rfl | rfl | rfl | rfl | rfl | rfl | rfl | rfl | rfl | rfl | rfl
  · exact c_1
  · exact c_2
  · exact c_3
  · exact c_4
  · exact c_5
  · exact c_7
  · exact c_8
  · exact c_9
  · exact c_10
  · exact c_11
  · exact c_12
  · exact c_13
  · exact c_14
  · exact c_15
  · exact c_16
  · exact c_17
  · exact c_18
theorem bnd_all : ∀ x ∈ LL, BindOk x := by
  intro x hx
  simp only [LL, List.mem_cons, List.not_mem_nil, or_false] at hx
  rcases hx with rfl | rfl | rfl | rfl | rfl | rfl | rfl | rfl | rfl | rfl | rfl | rfl | rfl | rfl | rfl | rfl | rfl
  · exact b_1
  · exact b_2
  · exact b_3
  · exact b_4
  · exact b_5
  · exact b_7
  · exact b_8
  · exact b_9
  · exact b_10
  · exact b_11
  · exact b_12
  · exact b_13
  · exact b_14
  · exact b_15
  · exact b_16
  · exact b_17
  · exact b_18
theorem glob_all {K : PySem.W.Frag} {h : Heap} {mg : Str → Option Value} (X : K.In h) (Gh : h.Ns mainGlobals mg) (c : He.SaysE fa fn K) (e : exK K = true) : ∀ g ∈ nms.gs, ∃ d u v, GC g = some d ∧ mg (nms.g g) = some u ∧ RelV v u ∧ ∀ F, Rep K F v d := by
  intro g hg
  have hg : g ∈ [] := hg
  simp only [List.mem_cons, List.not_mem_nil, or_false] at hg
theorem tups_all {K : PySem.W.Frag} {h : Heap} {mg : Str → Option Value} (X : K.In h) (Gh : h.Ns mainGlobals mg) (e : exK K = true) : ∀ g ∈ nms.ts, ∃ (a : Addr) (o : Obj) (ss : List Str), GC g = some (.tuple (ss.map .str)) ∧ mg (nms.g g) = some (.ref a) ∧ K.lookup a = some o ∧ o.cls = .type "tuple" ∧ o.dict = none ∧ (∀ F, SqT K F a (ss.map V.str)) := by
  intro g hg
  have hg : g ∈ ([] : List Nat) := hg
  simp only [List.mem_cons, List.not_mem_nil, or_false] at hg
theorem noL_of {K : PySem.W.Frag} (e : exK K = true) : noList K = true := by
  have e := exK_0 e
  unfold exK0 at e
  exact e
theorem free_all {K : PySem.W.Frag} {h : Heap} {mg : Str → Option Value} (X : K.In h) (Gh : h.Ns mainGlobals mg) (c : He.SaysE fa fn K) : ∀ x ∈ bltNames, mg x = none := by
  intro x hx
  exact He.free_ok X Gh (says_fact c (f := .free x) (by simp only [bltNames, List.mem_cons, List.not_mem_nil, or_false] at hx; rcases hx with rfl | rfl | rfl | rfl | rfl | rfl | rfl | rfl | rfl | rfl | rfl | rfl | rfl | rfl | rfl | rfl | rfl <;> simp [fa]))
theorem keep_all {K : PySem.W.Frag} (c : He.SaysE fa fn K) : ∀ x ∈ LL, PySem.W.keepIn K (.ref (He.fAd K x.d.at_)) = true := by
  intro x hx
  simp only [LL, List.mem_cons, List.not_mem_nil, or_false] at hx
  rcases hx with rfl | rfl | rfl | rfl | rfl | rfl | rfl | rfl | rfl | rfl | rfl | rfl | rfl | rfl | rfl | rfl | rfl
  · exact He.keep_ok (x := "bound_text") (says_fact c (f := .keep "bound_text") (by simp [fa]))
  · exact He.keep_ok (x := "bounds_text") (says_fact c (f := .keep "bounds_text") (by simp [fa]))
  · exact He.keep_ok (x := "field_text") (says_fact c (f := .keep "field_text") (by simp [fa]))
  · exact He.keep_ok (x := "part_text") (says_fact c (f := .keep "part_text") (by simp [fa]))
  · exact He.keep_ok (x := "written") (says_fact c (f := .keep "written") (by simp [fa]))
  · exact He.keep_ok (x := "_law_cell") (says_fact c (f := .keep "_law_cell") (by simp [fa]))
  · exact He.keep_ok (x := "_law_mix") (says_fact c (f := .keep "_law_mix") (by simp [fa]))
  · exact He.keep_ok (x := "_law_same") (says_fact c (f := .keep "_law_same") (by simp [fa]))
  · exact He.keep_ok (x := "_law_name") (says_fact c (f := .keep "_law_name") (by simp [fa]))
  · exact He.keep_ok (x := "_law_bounds") (says_fact c (f := .keep "_law_bounds") (by simp [fa]))
  · exact He.keep_ok (x := "_law_fields") (says_fact c (f := .keep "_law_fields") (by simp [fa]))
  · exact He.keep_ok (x := "_law_part") (says_fact c (f := .keep "_law_part") (by simp [fa]))
  · exact He.keep_ok (x := "_law_kind") (says_fact c (f := .keep "_law_kind") (by simp [fa]))
  · exact He.keep_ok (x := "_law_ends") (says_fact c (f := .keep "_law_ends") (by simp [fa]))
  · exact He.keep_ok (x := "_law_written") (says_fact c (f := .keep "_law_written") (by simp [fa]))
  · exact He.keep_ok (x := "_law_fields_text") (says_fact c (f := .keep "_law_fields_text") (by simp [fa]))
  · exact He.keep_ok (x := "law") (says_fact c (f := .keep "law") (by simp [fa]))
theorem glo_all {K : PySem.W.Frag} {h : Heap} {mg : Str → Option Value} (X : K.In h) (Gh : h.Ns mainGlobals mg) (c : He.SaysE fa fn K) : ∀ x ∈ LL, mg x.d.name = some (.ref (He.fAd K x.d.at_)) := by
  intro x hx
  simp only [LL, List.mem_cons, List.not_mem_nil, or_false] at hx
  rcases hx with rfl | rfl | rfl | rfl | rfl | rfl | rfl | rfl | rfl | rfl | rfl | rfl | rfl | rfl | rfl | rfl | rfl
  · exact He.glo_ok X Gh (x := "bound_text") (says_fact c (f := .glo "bound_text") (by simp [fa]))
  · exact He.glo_ok X Gh (x := "bounds_text") (says_fact c (f := .glo "bounds_text") (by simp [fa]))
  · exact He.glo_ok X Gh (x := "field_text") (says_fact c (f := .glo "field_text") (by simp [fa]))
  · exact He.glo_ok X Gh (x := "part_text") (says_fact c (f := .glo "part_text") (by simp [fa]))
  · exact He.glo_ok X Gh (x := "written") (says_fact c (f := .glo "written") (by simp [fa]))
  · exact He.glo_ok X Gh (x := "_law_cell") (says_fact c (f := .glo "_law_cell") (by simp [fa]))
  · exact He.glo_ok X Gh (x := "_law_mix") (says_fact c (f := .glo "_law_mix") (by simp [fa]))
  · exact He.glo_ok X Gh (x := "_law_same") (says_fact c (f := .glo "_law_same") (by simp [fa]))
  · exact He.glo_ok X Gh (x := "_law_name") (says_fact c (f := .glo "_law_name") (by simp [fa]))
  · exact He.glo_ok X Gh (x := "_law_bounds") (says_fact c (f := .glo "_law_bounds") (by simp [fa]))
  · exact He.glo_ok X Gh (x := "_law_fields") (says_fact c (f := .glo "_law_fields") (by simp [fa]))
  · exact He.glo_ok X Gh (x := "_law_part") (says_fact c (f := .glo "_law_part") (by simp [fa]))
  · exact He.glo_ok X Gh (x := "_law_kind") (says_fact c (f := .glo "_law_kind") (by simp [fa]))
  · exact He.glo_ok X Gh (x := "_law_ends") (says_fact c (f := .glo "_law_ends") (by simp [fa]))
  · exact He.glo_ok X Gh (x := "_law_written") (says_fact c (f := .glo "_law_written") (by simp [fa]))
  · exact He.glo_ok X Gh (x := "_law_fields_text") (says_fact c (f := .glo "_law_fields_text") (by simp [fa]))
  · exact He.glo_ok X Gh (x := "law") (says_fact c (f := .glo "law") (by simp [fa]))
theorem ec_all : ∀ c ∈ nms.xs, XC c = nms.x c := fun _ _ => rfl
theorem exs_all {K : PySem.W.Frag} {h : Heap} {mg : Str → Option Value} (X : K.In h) (Gh : h.Ns mainGlobals mg) (c : He.SaysE fa fn K) : ∀ k ∈ nms.xs, PySem.W.excIn K (He.ga K (nms.x k)) He.veBase "ValueError.__new__" = true ∧ mg (nms.x k) = some (.ref (He.ga K (nms.x k))) ∧ PySem.W.keepIn K (.ref (He.ga K (nms.x k))) = true ∧ PySem.W.subIn K (.ref (He.ga K (nms.x k))) (.type "BaseException") = some true ∧ PySem.W.typeIn K (.ref (He.ga K (nms.x k))) = some (.type "type") := by
  intro k hk
  have hk : k ∈ ([] : List Nat) := hk
  simp only [List.mem_cons, List.not_mem_nil, or_false] at hk
theorem try_all {K : PySem.W.Frag} {h : Heap} {mg : Str → Option Value} (X : K.In h) (Gh : h.Ns mainGlobals mg) (c : He.SaysE fa fn K) (e : exK K = true) : nms.tr = true → TryK nms (He.ga K) K mg := fun z => absurd z (by decide)
theorem tabs_all {K : PySem.W.Frag} (e : exK K = true) : ∀ x ∈ LL, lamNames.contains x.d.name = true → ∃ cp, tabCP K x.d.name = some cp := by
  unfold exK at e
  simp only [Bool.and_eq_true, Option.isSome_iff_exists] at e
  intro x hx hl
  simp only [LL, List.mem_cons, List.not_mem_nil, or_false] at hx
  rcases hx with rfl | rfl | rfl | rfl | rfl | rfl | rfl | rfl | rfl | rfl | rfl | rfl | rfl | rfl | rfl | rfl | rfl
  · exact absurd hl (by decide +kernel)
  · exact absurd hl (by decide +kernel)
  · exact absurd hl (by decide +kernel)
  · exact absurd hl (by decide +kernel)
  · exact absurd hl (by decide +kernel)
  · exact absurd hl (by decide +kernel)
  · exact absurd hl (by decide +kernel)
  · exact absurd hl (by decide +kernel)
  · exact absurd hl (by decide +kernel)
  · exact absurd hl (by decide +kernel)
  · exact absurd hl (by decide +kernel)
  · exact absurd hl (by decide +kernel)
  · exact absurd hl (by decide +kernel)
  · exact absurd hl (by decide +kernel)
  · exact absurd hl (by decide +kernel)
  · exact absurd hl (by decide +kernel)
  · exact e.2
theorem says_all {K : PySem.W.Frag} (c : He.SaysE fa fn K) : ∀ x ∈ LL, ∃ fd, FnAt K x fd := fun x hx => says_def c (List.mem_map.mpr ⟨x, hx, rfl⟩)
end G7

open PySem PySem.W PySem.Calls PyProof.Rows
theorem PySem.Challenge.cw_partfaces_k10_written_kinds_holds : PySem.Challenge.rw_partfaces_k10_written_kinds.Holds := by
  w_on; o_law
  refine HandSHeadRun.head_any (r := OpenLaw.row PySem.Challenge.rw_partfaces_k10_written_kinds) (q := view (OpenLaw.row PySem.Challenge.rw_partfaces_k10_written_kinds).prog [18]) (H := G7.hk) (ob := G7.ob) (M := 4000) (loose := G7.names) (d := HandSHeadRun.topDef (OpenLaw.row PySem.Challenge.rw_partfaces_k10_written_kinds).prog 18) (kwd := []) G7.ob_eq
    (by kernel_rfl) (fun s => by kernel_rfl) G7.run_ok (by kernel_rfl) (by kernel_rfl) (by kernel_rfl) (by rfl) (by first | assumption | decide +kernel) (by decide +kernel) ⟨rfl, rfl, rfl, rfl, rfl, by decide +kernel⟩ ?hw ?hc
  case hw => w_witness2
  case hc =>
    refine G7.walk_ofTE (l := PySem.Challenge.rw_partfaces_k10_written_kinds) (n := 63) (k := G7.fuel) (x := "script") (CX := G7.CXe) rfl (by decide) (by kernel_rfl) ⟨rfl, by decide, by decide⟩ ?F (fun _ _ _ _ ⟨_, _, _, z⟩ => z)
    intro w mg fa h Y G hmg0
    obtain ⟨K, KX, c, e, TH⟩ := Y
    have hmg : mg ("law" : PySem.Str) = some (.ref fa) := by
      have e : (HandSHeadRun.topDef (OpenLaw.row PySem.Challenge.rw_partfaces_k10_written_kinds).prog 18).name = ("law" : PySem.Str) := by kernel_rfl
      rw [← e]
      exact hmg0
    exact G7.law_end (P := (PySem.Challenge.rw_partfaces_k10_written_kinds).prog) (w := w) (nm := G7.nms) (G := G7.GC) (ec := G7.XC) (M := G7.M) (xa := He.ga K) KX TH hmg G7.LL rfl G7.chk_all G7.bnd_all (G7.says_all c) (G7.keep_all c) (G7.glo_all KX G c) (G7.free_all KX G c) (G7.glob_all KX G c e) (G7.tups_all KX G e) G7.ec_all (G7.exs_all KX G c) (G7.try_all KX G c e) (G7.tabs_all e) (G7.noL_of e) G7.l_18 (by simp [G7.LL]) rfl rfl G7.fuel 63 G7.pure_law


