import PyProof.Rows.All
import Wide.All
import OpenK.AllK
import Wide.FinOn
import HandS.Base
import HandS.Call
import HandS.List
import HandS.Comp
import HandS.Exc
import HandS.ExcOwn
import HandS.WordsExc
import HandS.TryMany
import HandS.Text
import HandS.Dict
import HandS.Wide
import HandS.HeadHook2
import HandS.Flow
import HandS.Iter
import HandS.Walk
import HandS.Zip
import HandS.Style
import HandS.Small
import HandS.TryOnly
import HandS.ExcIs
import HandS.TupAny
import HandS.TupMul
import HandS.Deep
import HandS.WideBits
import HandS.Gcd
import HandS.Defaults
import HandS.Ends
import HandS.TupLen
import HandS.IsInst
import HandS.More
import HandS.Strs
import HandS.RaiseMore
import HandS.Codes
import HandS.HeadHook1
import HandS.HeadEnd
import HandS.Head0
import HandS.Head1
import HandS.Head2
import KE.KStateDown
import KE.KIndexOf
import PyProof.StrLawsRepr
import PySem.Challenge.RW_brushedsigns_k50_mirrored_books
set_option Elab.async false
set_option linter.all false
set_option maxRecDepth 100000
/-! Mini: a small evaluator over data trees, for a subset of Python. Part A: what it computes. -/
namespace Mini
open PySem
/-- tuples that the module's constants may be (never put in a dict as keys) -/
def conLike : PyData → Bool
  | .tuple (.str _ :: _) => true
  | .tuple (.tuple _ :: _) => true
  | .tuple [.int 0, .int 1] => true
  | .tuple [.int 1, .int 1] => true
  | _ => false

/-! ### values -/
/-- a container that one slot alone holds -/
inductive Ct where
  | lst (ds : List PyData)
  | dic (t : Bool) (kvs : List (PyData × PyData))
/-- what a slot holds: data (never changed any more), a container of its own, an exception -/
inductive Sv where
  | dat (d : PyData)
  | own (c : Ct)
  | exc (c : Nat) (fs : List (Str × PyData))
  /-- a tuple of the module, known to have no dict -/
  | glt (ds : List PyData)
/-- a result: a thing of its own, or what the slot i owns -/
inductive Rv where
  | val (s : Sv)
  | slot (i : Nat)
abbrev Env := List (Option Sv)
inductive Res (α : Type) where
  | ok (a : α) (ρ : Env)
  | exc (c : Nat) (fs : List (Str × PyData)) (ρ : Env)
  | bad
def Res.bind {α β : Type} : Res α → (α → Env → Res β) → Res β
  | .ok a ρ, f => f a ρ
  | .exc c fs ρ, _ => .exc c fs ρ
  | .bad, _ => .bad
/-- a call's end: what it hands back, what stands in its parameters' slots -/
inductive FRes where
  | ret (s : Sv) (ps : Env)
  | exc (c : Nat) (fs : List (Str × PyData)) (ps : Env)
abbrev Orc := Nat → List Sv → Option FRes

def Ct.data : Ct → PyData
  | .lst ds => .list ds
  | .dic _ kvs => .dict kvs
def Sv.data : Sv → Option PyData
  | .dat d => some d
  | .own c => some c.data
  | .exc _ _ => none
  | .glt ds => some (.tuple ds)
def getS (ρ : Env) (i : Nat) : Option Sv := (ρ[i]?).join
def Rv.data (ρ : Env) : Rv → Option PyData
  | .val s => s.data
  | .slot i => (getS ρ i).bind Sv.data
/-- the thing becomes data for good -/
def frz (ρ : Env) : Rv → Option (PyData × Env)
  | .val s => s.data.map fun d => (d, ρ)
  | .slot i => ((getS ρ i).bind Sv.data).map fun d => (d, ρ.set i (some (.dat d)))
def frzAll (ρ : Env) : List Rv → Option (List PyData × Env)
  | [] => some ([], ρ)
  | r :: rs => (frz ρ r).bind fun p => (frzAll p.2 rs).map fun q => (p.1 :: q.1, q.2)

/-! ### operations on data -/
inductive BOp where
  | add | sub | mul | fdiv | mod | pow
  deriving DecidableEq
inductive COp where
  | lt | le | gt | ge | eq | ne | inn | nin
  deriving DecidableEq
/-- a product is reckoned: one factor below 2^64, or both below 2^8000 -/
def small (i : Int) : Bool := decide (-18446744073709551616 < i) && decide (i < 18446744073709551616)
def wide (i : Int) : Bool := decide (i.natAbs.log2 < 100000)
def mulOk (i j : Int) : Bool := small i || small j || (wide i && wide j)
def divOk (j : Int) : Bool := decide (0 < j) && decide (j.natAbs.log2 < 8000)
def fitN (n : Nat) : Bool := decide (n ≤ 1000000)
/-- all scalars that == compares at once -/
def flatD : PyData → Bool
  | .none | .bool _ | .int _ | .str _ => true
  | _ => false
def shapedD (d : PyData) : Bool := SeqAt.shaped d
def binD : BOp → PyData → PyData → Option Sv
  | .add, .int i, .int j => some (.dat (.int (i + j)))
  | .add, .str x, .str y => if fitN (x.length + y.length) then some (.dat (.str (x ++ y))) else none
  | .add, .tuple xs, .tuple ys => if fitN (xs.length + ys.length) then some (.dat (.tuple (xs ++ ys))) else none
  | .add, .list xs, .list ys => if fitN (xs.length + ys.length) then some (.own (.lst (xs ++ ys))) else none
  | .sub, .int i, .int j => some (.dat (.int (i - j)))
  | .mul, .int i, .int j => if mulOk i j then some (.dat (.int (i * j))) else none
  | .mul, .list xs, .int k => if decide (-1000 ≤ k) && decide (k ≤ 1000) && fitN (xs.length * k.toNat) then some (.own (.lst (List.replicate k.toNat xs).flatten)) else none
  | .mul, .tuple xs, .int k => if !xs.isEmpty && decide (2 ≤ k) && decide (k ≤ 1000) && decide (xs.length ≤ 1000) then some (.dat (.tuple (List.replicate k.toNat xs).flatten)) else none
  | .fdiv, .int i, .int j => if divOk j then some (.dat (.int (i.fdiv j))) else none
  | .mod, .int i, .int j => if decide (j = 0) then none else some (.dat (.int (i.fmod j)))
  | .pow, .int i, .int j => if decide (0 ≤ j) && decide (j ≤ 1000) && small i then some (.dat (.int (i ^ j.toNat))) else none
  | _, _, _ => none
mutual
/-- the same data, sign for sign -/
def sameD : PyData → PyData → Bool
  | .none, .none => true
  | .bool a, .bool b => a == b
  | .int a, .int b => decide (a = b)
  | .str a, .str b => decide (a = b)
  | .list a, .list b => sameAll a b
  | .tuple a, .tuple b => sameAll a b
  | .dict a, .dict b => sameKv a b
  | _, _ => false
def sameAll : List PyData → List PyData → Bool
  | [], [] => true
  | a :: r, b :: q => sameD a b && sameAll r q
  | _, _ => false
def sameKv : List (PyData × PyData) → List (PyData × PyData) → Bool
  | [], [] => true
  | (a, b) :: r, (c, d) :: q => sameD a c && sameD b d && sameKv r q
  | _, _ => false
end
/-- a key of a dict: an int, a text; a tuple of such -/
def keyK : PyData → Option L2.Key
  | .int i => some (.inl i)
  | .str x => some (.inr x)
  | _ => none
def keysK : List PyData → Option (List L2.Key)
  | [] => some []
  | d :: r => (keyK d).bind fun k => (keysK r).map fun q => k :: q
def isKey (d : PyData) : Bool := match d with
  | .int _ => true
  | .str _ => true
  | .tuple ds => (ds.all fun d => (keyK d).isSome) && !conLike (.tuple ds)
  | _ => false
def isTup : PyData → Bool
  | .tuple _ => true
  | _ => false
/-- the dict's keys are of the key's kind -/
def headKind (kvs : List (PyData × PyData)) (d : PyData) : Bool := match kvs with
  | [] => false
  | p :: _ => isTup p.1 == isTup d
def lookD (kvs : List (PyData × PyData)) (k : PyData) : Option PyData := (kvs.find? fun p => sameD p.1 k).map (·.2)
def hasD (kvs : List (PyData × PyData)) (k : PyData) : Bool := kvs.any fun p => sameD p.1 k
def putD (kvs : List (PyData × PyData)) (k v : PyData) : List (PyData × PyData) :=
  if hasD kvs k then kvs.map fun p => if sameD p.1 k then (p.1, v) else p else kvs ++ [(k, v)]
/-- a in the items of xs, by == -/
def inD (d : PyData) (xs : List PyData) : Bool := xs.any fun x => PyData.eqv x d
def cmpD : COp → PyData → PyData → Option Bool
  | .lt, .int i, .int j => some (decide (i < j))
  | .le, .int i, .int j => some (decide (i ≤ j))
  | .gt, .int i, .int j => some (decide (j < i))
  | .ge, .int i, .int j => some (decide (j ≤ i))
  | .eq, .int i, .int j => some (decide (i = j))
  | .eq, .str x, .str y => some (decide (x = y))
  | .ne, .int i, .int j => some (!decide (i = j))
  | .ne, .str x, .str y => some (!decide (x = y))
  | .eq, d, e => if shapedD d && shapedD e then some (PyData.eqv d e) else none
  | .ne, d, e => if shapedD d && shapedD e then some (!PyData.eqv d e) else none
  | .inn, .str x, .str y => if decide (x.length = 1) then some (decide (x.cps.toList.head? ∈ (y.cps.toList.map some))) else none
  | .nin, .str x, .str y => if decide (x.length = 1) then some (!decide (x.cps.toList.head? ∈ (y.cps.toList.map some))) else none
  | .inn, d, .list xs => if shapedD d && shapedD (.list xs) then some (inD d xs) else none
  | .inn, d, .tuple xs => if flatD d && xs.all flatD then some (inD d xs) else none
  | .nin, d, .list xs => if shapedD d && shapedD (.list xs) then some (!inD d xs) else none
  | .nin, d, .tuple xs => if flatD d && xs.all flatD then some (!inD d xs) else none
  | .inn, d, .dict kvs => if isKey d && headKind kvs d then some (hasD kvs d) else none
  | .nin, d, .dict kvs => if isKey d && headKind kvs d then some (!hasD kvs d) else none
  | _, _, _ => none
def truD : PyData → Option Bool
  | .none => some false
  | .bool b => some b
  | .int i => some (i != 0)
  | .str x => if fitN x.length then some (x.length != 0) else none
  | .list xs => some (!xs.isEmpty)
  | .tuple xs => some (!xs.isEmpty)
  | .dict _ => none
def ixD : PyData → PyData → Option PyData
  | .list xs, .int i => L2.atI xs i
  | .tuple xs, .int i => L2.atI xs i
  | .str x, .int i => if fitN x.length then (L2.atI x.cps.toList i).map fun c => .str ⟨#[c]⟩ else none
  | .dict kvs, k => if isKey k then lookD kvs k else none
  | _, _ => none
def cutD {α : Type} (xs : List α) (lo hi : Option Int) : List α := (xs.drop (HT.sIx xs.length 0 lo)).take (HT.sIx xs.length xs.length hi - HT.sIx xs.length 0 lo)
def slcD : PyData → Option Int → Option Int → Option Sv
  | .list xs, lo, hi => some (.own (.lst (cutD xs lo hi)))
  | .tuple xs, lo, hi => some (.dat (.tuple (cutD xs lo hi)))
  | .str x, lo, hi => if fitN x.length then some (.dat (.str (L2.cutS x lo hi))) else none
  | _, _, _ => none
/-- the classes that isinstance is asked for -/
inductive Ty where
  | int | bool | str | tuple | list | dict
  deriving DecidableEq
def isTy : Ty → PyData → Bool
  | .int, .int _ => true
  | .int, .bool _ => true
  | .bool, .bool _ => true
  | .str, .str _ => true
  | .tuple, .tuple _ => true
  | .list, .list _ => true
  | .dict, .dict _ => true
  | _, _ => false
def intsD : List PyData → Option (List Int)
  | [] => some []
  | .int i :: r => (intsD r).map fun q => i :: q
  | _ => none
def boolsD : List PyData → Option (List Bool)
  | [] => some []
  | .bool b :: r => (boolsD r).map fun q => b :: q
  | _ => none
mutual
/-- no dict but an empty one stands in it -/
def layE : PyData → Bool
  | .list xs => layAll xs
  | .tuple xs => layAll xs
  | .dict kvs => kvs.isEmpty
  | _ => true
def layAll : List PyData → Bool
  | [] => true
  | x :: xs => layE x && layAll xs
end
def shapeE (d : PyData) : Bool := layE d && decide (d.depth ≤ 64)
def isSeq : PyData → Bool
  | .list _ => true
  | .tuple _ => true
  | _ => false
/-- methods without an argument -/
inductive Mth where
  | upper
  deriving DecidableEq
def methD : Mth → PyData → Option Sv
  | .upper, .str x => if decide (x.length ≤ 1000000) then some (.dat (.str (Txt.upper x))) else none
  | _, _ => none
def revD : PyData → Option Sv
  | .tuple xs => some (.dat (.tuple xs.reverse))
  | .list xs => some (.own (.lst xs.reverse))
  | _ => none
def maxL : List Int → Option Int
  | [] => none
  | n :: ns => some (ns.foldl (fun a b => if b > a then b else a) n)
def minL : List Int → Option Int
  | [] => none
  | n :: ns => some (ns.foldl (fun a b => if b < a then b else a) n)
inductive Blt where
  | len | sum | max | min | abs | int | bool | str | repr | reprI | list | tuple | all | any | gcd | set | sorted
  deriving DecidableEq
def itemsD : PyData → Option (List PyData)
  | .list xs => some xs
  | .tuple xs => some xs
  | _ => none
def intB : PyData → Bool
  | .int i => decide (i.natAbs.log2 < 12900)
  | _ => false
def bltD : Blt → List PyData → Option Sv
  | .len, [.list xs] => some (.dat (.int xs.length))
  | .len, [.tuple xs] => some (.dat (.int xs.length))
  | .len, [.str x] => if fitN x.length then some (.dat (.int x.length)) else none
  | .len, [.dict kvs] => some (.dat (.int kvs.length))
  | .sum, [.list xs] => (intsD xs).map fun ns => .dat (.int ns.sum)
  | .max, [.int i, .int j] => some (.dat (.int (if j > i then j else i)))
  | .min, [.int i, .int j] => some (.dat (.int (if j < i then j else i)))
  | .max, [.list xs] => (intsD xs).bind fun ns => (maxL ns).map fun m => .dat (.int m)
  | .min, [.list xs] => (intsD xs).bind fun ns => (minL ns).map fun m => .dat (.int m)
  | .str, [.int i] => if decide (i.natAbs.log2 < 1920) then some (.dat (.str (toString i))) else none
  | .abs, [.int i] => some (.dat (.int (if i < 0 then -i else i)))
  | .int, [.int i] => some (.dat (.int i))
  | .int, [.bool b] => some (.dat (.int (if b then 1 else 0)))
  | .repr, [d] => if isSeq d && shapeE d && PyData.showable d && decide ((PyData.shown d).length ≤ 1000000) then some (.dat (.str (PyData.shown d))) else none
  | .reprI, [.list (x :: xs)] => if (x :: xs).all intB && decide ((PyData.shown (.list (x :: xs))).length ≤ 1000000) then some (.dat (.str (PyData.shown (.list (x :: xs))))) else none
  | .list, [.list xs] => some (.own (.lst xs))
  | .list, [.tuple xs] => some (.own (.lst xs))
  | .tuple, [.list xs] => some (.dat (.tuple xs))
  | .tuple, [.tuple xs] => some (.dat (.tuple xs))
  | .all, [.list xs] => (boolsD xs).map fun bs => .dat (.bool (bs.all id))
  | .any, [.list xs] => (boolsD xs).map fun bs => .dat (.bool (bs.any id))
  | .gcd, [.int i, .int j] => some (.dat (.int (Int.gcd i j)))
  | _, _ => none

/-! ### expressions -/
inductive Tgt where
  | name (i : Nat)
  | tup (ts : List Tgt)
mutual
inductive IE where
  | var (i : Nat)
  | lit (d : PyData)
  | glb (x : Str) (d : PyData)
  | tup (es : List IE)
  | lst (es : List IE)
  | dic (t : Bool) (kvs : List IE)
  | bin (op : BOp) (a b : IE)
  | neg (a : IE)
  | cmp (op : COp) (a b : IE)
  | isN (a : IE)
  | notN (a : IE)
  | chain (o1 o2 : COp) (a b c : IE)
  | and (a b : IE)
  | or (a b : IE)
  | not (a : IE)
  | ife (c a b : IE)
  | ix (a i : IE)
  | slc (a : IE) (lo hi : Option IE)
  | rev (a : IE)
  | meth (m : Mth) (a : IE)
  | isi (a : IE) (t : Ty)
  | isx (a : IE) (c : Nat)
  | blt (b : Blt) (es : List IE)
  | call (f : Nat) (es : List IE)
  | callk (f : Nat) (es : List IE) (pl : List Nat)
  | pop (i : Nat) (es : List IE)
  | index (a b : IE)
  | indexG (a b : IE)
  | gt (x : Str) (ds : List PyData)
  | lc (v : Tgt) (vs : List Nat) (it : II) (cs : List IE) (e : IE)
inductive II where
  | val (e : IE)
  | rng (es : List IE)
  | enum (e : IE)
  | zip (a b : IE)
end
inductive IS where
  | asg (t : Tgt) (e : IE)
  | par (is : List Nat) (es : List IE)
  | aug (i : Nat) (op : BOp) (e : IE)
  | setIx (i : Nat) (k e : IE)
  | setIx2 (i : Nat) (k : IE) (j : Nat) (l : IE) (a b : IE)
  | app (i : Nat) (e : IE)
  | ext (i : Nat) (e : IE)
  | ins (i : Nat) (k e : IE)
  | ifs (c : IE) (t e : List IS)
  | forr (t : Tgt) (it : II) (body : List IS)
  | whl (c : IE) (body : List IS)
  | ret (e : IE)
  | retN
  | brk | cnt | pass
  | expr (e : IE)
  | raise (c : Nat) (es : List IE)
  | try_ (body : List IS) (hs : List (Nat × Option Nat × List IS))
  /-- except k as i: hs (x is bound to it); is, behind the statement -/
  | tryK (body : List IS) (k i x : Nat) (hs is : List IS)
/-- a def of the text -/
structure FnI where
  np : Nat
  nl : Nat
  body : List IS
  /-- the parameters that the body never binds again -/
  kp : List Bool

/-! ### targets -/
mutual
def namesT : Tgt → List Nat
  | .name i => [i]
  | .tup ts => namesTs ts
def namesTs : List Tgt → List Nat
  | [] => []
  | t :: ts => namesT t ++ namesTs ts
end
mutual
def asgT : Tgt → PyData → Env → Option Env
  | .name i, d, ρ => some (ρ.set i (some (.dat d)))
  | .tup ts, d, ρ => match d with
    | .tuple ds => asgTs ts ds ρ
    | _ => none
def asgTs : List Tgt → List PyData → Env → Option Env
  | [], [], ρ => some ρ
  | t :: ts, d :: ds, ρ => (asgT t d ρ).bind fun ρ1 => asgTs ts ds ρ1
  | _, _, _ => none
end
/-- one argument of a call: what is handed over, the caller's slots, whether it is lent -/
def lend1 (ρ : Env) (r : Rv) (k : Bool) : Option (Sv × Env × Option Nat) := match r with
  | .val s => some (s, ρ, none)
  | .slot i => (match getS ρ i with
    | some (.dat d) => some (.dat d, ρ, none)
    | some (.own c) => if k then some (.own c, ρ.set i none, some i) else some (.dat c.data, ρ.set i (some (.dat c.data)), none)
    | _ => none)
def lend (ρ : Env) : List Rv → List Bool → Option (List Sv × Env × List (Option Nat))
  | [], _ => some ([], ρ, [])
  | r :: rs, kp => match lend1 ρ r (kp.headD false) with
    | none => none
    | some (s, ρ1, l) => match lend ρ1 rs kp.tail with
      | none => none
      | some (ss, ρ2, ls) => some (s :: ss, ρ2, l :: ls)
/-- what was lent comes back -/
def giveBack (ρ : Env) : List (Option Nat) → Env → Option Env
  | [], _ => some ρ
  | none :: ls, ps => giveBack ρ ls ps.tail
  | some i :: ls, ps => match ps.head? with
    | some (some (.own c)) => giveBack (ρ.set i (some (.own c))) ls ps.tail
    | some (some (.dat d)) => giveBack (ρ.set i (some (.dat d))) ls ps.tail
    | _ => none
def callF (Φ : Orc) (f : Nat) (kp : List Bool) (rs : List Rv) (ρ : Env) : Res Rv :=
  match lend ρ rs kp with
  | none => .bad
  | some (svs, ρ1, ls) => match Φ f svs with
    | none => .bad
    | some (.ret s ps) => (match giveBack ρ1 ls ps with
      | some ρ2 => .ok (.val s) ρ2
      | none => .bad)
    | some (.exc c fs ps) => (match giveBack ρ1 ls ps with
      | some ρ2 => .exc c fs ρ2
      | none => .bad)

/-- the list that the slot i owns -/
def slotL (ρ : Env) (i : Nat) : Option (List PyData) := match getS ρ i with
  | some (.own (.lst ds)) => some ds
  | _ => none
def appL (ρ : Env) (i : Nat) (ds : List PyData) (d : PyData) : Option Env := if fitN ds.length then some (ρ.set i (some (.own (.lst (ds ++ [d]))))) else none
def extL (ρ : Env) (i : Nat) (ds : List PyData) : PyData → Option Env
  | .list xs => if fitN (ds.length + xs.length) then some (ρ.set i (some (.own (.lst (ds ++ xs))))) else none
  | _ => none
def insL (ρ : Env) (i : Nat) (ds : List PyData) : List PyData → Option Env
  | [.int j, d] => if fitN ds.length && decide (0 ≤ j) && decide (j ≤ 1000000) then some (ρ.set i (some (.own (.lst (ds.take j.toNat ++ [d] ++ ds.drop j.toNat))))) else none
  | _ => none
def popL (ds : List PyData) : List PyData → Option (PyData × List PyData)
  | [] => ds.getLast?.map fun d => (d, ds.dropLast)
  | [.int k] => if fitN ds.length then (L2.ixN ds.length k).bind fun j => ds[j]?.map fun d => (d, ds.eraseIdx j) else none
  | _ => none

/-! ### the evaluator of expressions; a table of the defs' kept parameters is at hand -/
def guardOk (ρ : Env) (xs : List PyData) : Option Nat → Bool
  | none => true
  | some j => match getS ρ j with
    | some (.own (.lst ds)) => sameAll ds xs
    | some (.dat (.list ds)) => sameAll ds xs
    | _ => false
def wipeE (ρ : Env) : List Nat → Env
  | [] => ρ
  | v :: vs => (wipeE ρ vs).set v none
/-- behind a comprehension its own slots are what they were -/
def restE (ρ0 : Env) (ρ : Env) : List Nat → Env
  | [] => ρ
  | v :: vs => (restE ρ0 ρ vs).set v (getS ρ0 v)
def noneD : PyData → Bool
  | .none => true
  | _ => false
def noneR (ρ : Env) : Rv → Option Bool
  | .val (.exc _ _) => some false
  | r => (r.data ρ).map noneD
def truR (ρ : Env) (r : Rv) : Res Bool := match (r.data ρ).bind truD with
  | some b => .ok b ρ
  | none => .bad
def datR (ρ : Env) (o : Option PyData) : Res Rv := match o with
  | some d => .ok (.val (.dat d)) ρ
  | none => .bad
def svR (ρ : Env) (o : Option Sv) : Res Rv := match o with
  | some s => .ok (.val s) ρ
  | none => .bad
def boolR (ρ : Env) (o : Option Bool) : Res Rv := match o with
  | some b => .ok (.val (.dat (.bool b))) ρ
  | none => .bad
def dataAll (ρ : Env) : List Rv → Option (List PyData)
  | [] => some []
  | r :: rs => (r.data ρ).bind fun d => (dataAll ρ rs).map fun ds => d :: ds
def partI (ρ : Env) (r : Rv) : Option Int := match r.data ρ with
  | some (.int i) => some i
  | _ => none
def rngOk (n : Int) : Bool := decide (-1000000 ≤ n) && decide (n ≤ 1000000)
def rangeD : List PyData → Option (List PyData)
  | [.int n] => if rngOk n then some ((List.range n.toNat).map fun (i : Nat) => .int (0 + (i : Int))) else none
  | [.int a, .int b] => if rngOk a && rngOk b then some ((List.range (b - a).toNat).map fun (i : Nat) => .int (a + (i : Int))) else none
  | _ => none
def enumD (xs : List PyData) : List PyData := (List.range xs.length).zipWith (fun (i : Nat) x => .tuple [.int (i : Int), x]) xs
def zipD (xs ys : List PyData) : List PyData := xs.zipWith (fun x y => .tuple [x, y]) ys
/-- the index of the first item that equals -/
def indexD (d : PyData) : List PyData → Option Nat
  | [] => none
  | x :: xs => if PyData.eqv x d then some 0 else (indexD d xs).map (· + 1)
def indexL : PyData → PyData → Option PyData
  | .list xs, y => if shapedD y && shapedD (.list xs) then (indexD y xs).map fun (j : Nat) => .int (j : Int) else none
  | _, _ => none
/-- in a tuple of texts -/
def strsD : List PyData → Option (List Str)
  | [] => some []
  | .str x :: r => (strsD r).map fun q => x :: q
  | _ => none
def indexS (x : Str) : List Str → Option Nat
  | [] => none
  | y :: ys => if y = x then some 0 else (indexS x ys).map (· + 1)
def indexT (ds : List PyData) : PyData → Option PyData
  | .str x => (strsD ds).bind fun xs => (indexS x xs).map fun (j : Nat) => .int (j : Int)
  | _ => none
def kvsOf (t : Bool) : List PyData → Option (List (PyData × PyData))
  | [] => some []
  | k :: v :: r => if isKey k && isTup k == t then (kvsOf t r).map fun q => (k, v) :: q else none
  | _ => none
def mergeD (kvs : List (PyData × PyData)) : List (PyData × PyData) → List (PyData × PyData)
  | [] => kvs
  | (k, v) :: r => mergeD (putD kvs k v) r
/-- exception classes: their numbers; is the first one the second or under it -/
abbrev Sub := Nat → Nat → Bool
structure Pg where
  kp : Nat → List Bool
  sub : Sub
/-- an ordered run over items, watched -/
def foldR {α : Type} (gd : Env → Bool) (f : α → PyData → Env → Res α) : List PyData → α → Env → Res α
  | [], a, ρ => if gd ρ then .ok a ρ else .bad
  | x :: xs, a, ρ => if gd ρ then (f a x ρ).bind fun a' ρ' => foldR gd f xs a' ρ' else .bad
/-- the values in the parameters' order: the j-th is the pl[j]-th given -/
def place (rs : List Rv) (pl : List Nat) : Option (List Rv) := pl.mapM fun j => rs[j]?
mutual
def evE (p : Pg) (Φ : Orc) : IE → Env → Res Rv
  | .var i, ρ => (match getS ρ i with
    | some (.dat d) => .ok (.val (.dat d)) ρ
    | some (.own _) => .ok (.slot i) ρ
    | some (.exc c fs) => .ok (.val (.exc c fs)) ρ
    | some (.glt ds) => .ok (.val (.glt ds)) ρ
    | none => .bad)
  | .gt _ ds, ρ => .ok (.val (.glt ds)) ρ
  | .lit d, ρ => .ok (.val (.dat d)) ρ
  | .glb _ d, ρ => .ok (.val (.dat d)) ρ
  | .tup es, ρ => (evEs p Φ es ρ).bind fun rs ρ => (match frzAll ρ rs with
    | some (ds, ρ) => if fitN ds.length then .ok (.val (.dat (.tuple ds))) ρ else .bad
    | none => .bad)
  | .lst es, ρ => (evEs p Φ es ρ).bind fun rs ρ => (match frzAll ρ rs with
    | some (ds, ρ) => if fitN ds.length then .ok (.val (.own (.lst ds))) ρ else .bad
    | none => .bad)
  | .dic t es, ρ => (evEs p Φ es ρ).bind fun rs ρ => (match frzAll ρ rs with
    | some (ds, ρ) => svR ρ ((kvsOf t ds).map fun kvs => .own (.dic t (mergeD [] kvs)))
    | none => .bad)
  | .bin op a b, ρ => (evE p Φ a ρ).bind fun ra ρ => (evE p Φ b ρ).bind fun rb ρ =>
    svR ρ ((ra.data ρ).bind fun x => (rb.data ρ).bind fun y => binD op x y)
  | .neg a, ρ => (evE p Φ a ρ).bind fun ra ρ => (match ra.data ρ with
    | some (.int i) => .ok (.val (.dat (.int (-i)))) ρ
    | _ => .bad)
  | .cmp op a b, ρ => (evE p Φ a ρ).bind fun ra ρ => (evE p Φ b ρ).bind fun rb ρ =>
    boolR ρ ((ra.data ρ).bind fun x => (rb.data ρ).bind fun y => cmpD op x y)
  | .isN a, ρ => (evE p Φ a ρ).bind fun ra ρ => boolR ρ (noneR ρ ra)
  | .notN a, ρ => (evE p Φ a ρ).bind fun ra ρ => boolR ρ ((noneR ρ ra).map fun b => !b)
  | .chain o1 o2 a b c, ρ => (evE p Φ a ρ).bind fun ra ρ => (evE p Φ b ρ).bind fun rb ρ =>
    (match (ra.data ρ).bind fun x => (rb.data ρ).bind fun y => cmpD o1 x y with
    | some false => .ok (.val (.dat (.bool false))) ρ
    | some true => (evE p Φ c ρ).bind fun rc ρ => boolR ρ ((rb.data ρ).bind fun y => (rc.data ρ).bind fun z => cmpD o2 y z)
    | none => .bad)
  | .and a b, ρ => (evE p Φ a ρ).bind fun ra ρ => (match (ra.data ρ).bind truD with
    | some true => evE p Φ b ρ
    | some false => .ok ra ρ
    | none => .bad)
  | .or a b, ρ => (evE p Φ a ρ).bind fun ra ρ => (match (ra.data ρ).bind truD with
    | some true => .ok ra ρ
    | some false => evE p Φ b ρ
    | none => .bad)
  | .not a, ρ => (evE p Φ a ρ).bind fun ra ρ => boolR ρ (((ra.data ρ).bind truD).map fun b => !b)
  | .ife c a b, ρ => (evE p Φ c ρ).bind fun rc ρ => (match (rc.data ρ).bind truD with
    | some true => evE p Φ a ρ
    | some false => evE p Φ b ρ
    | none => .bad)
  | .ix a i, ρ => (evE p Φ a ρ).bind fun ra ρ => (evE p Φ i ρ).bind fun ri ρ =>
    datR ρ ((ra.data ρ).bind fun x => (ri.data ρ).bind fun y => ixD x y)
  | .slc a lo hi, ρ => (evE p Φ a ρ).bind fun ra ρ => (evO p Φ lo ρ).bind fun l ρ => (evO p Φ hi ρ).bind fun h ρ =>
    svR ρ ((ra.data ρ).bind fun x => slcD x l h)
  | .rev a, ρ => (evE p Φ a ρ).bind fun ra ρ => svR ρ ((ra.data ρ).bind revD)
  | .meth m a, ρ => (evE p Φ a ρ).bind fun ra ρ => svR ρ ((ra.data ρ).bind (methD m))
  | .isi a t, ρ => (evE p Φ a ρ).bind fun ra ρ => boolR ρ ((ra.data ρ).map (isTy t))
  | .isx a c, ρ => (evE p Φ a ρ).bind fun ra ρ => boolR ρ (match ra with
    | .val (.exc c' []) => some (p.sub c' c)
    | _ => none)
  | .blt b es, ρ => (evEs p Φ es ρ).bind fun rs ρ => svR ρ ((dataAll ρ rs).bind (bltD b))
  | .call f es, ρ => (evEs p Φ es ρ).bind fun rs ρ => callF Φ f (p.kp f) rs ρ
  | .callk f es pl, ρ => (evEs p Φ es ρ).bind fun rs ρ => (match place rs pl with
    | some qs => callF Φ f (p.kp f) qs ρ
    | none => .bad)
  | .pop i es, ρ => if (slotL ρ i).isSome then (evEs p Φ es ρ).bind fun rs ρ => (match (dataAll ρ rs).bind fun ks => (slotL ρ i).bind fun ds => popL ds ks with
      | some q => .ok (.val (.dat q.1)) (ρ.set i (some (.own (.lst q.2))))
      | none => .bad) else .bad
  | .index a b, ρ => (evE p Φ a ρ).bind fun ra ρ => (match ra.data ρ with
    | some (.list _) => (evE p Φ b ρ).bind fun rb ρ => datR ρ ((ra.data ρ).bind fun xs => (rb.data ρ).bind fun y => indexL xs y)
    | _ => .bad)
  | .indexG a b, ρ => (evE p Φ a ρ).bind fun ra ρ => (match ra with
    | .val (.glt ds) => (evE p Φ b ρ).bind fun rb ρ => datR ρ ((rb.data ρ).bind fun y => indexT ds y)
    | _ => .bad)
  | .lc v vs it cs e, ρ => (evI p Φ it ρ).bind fun q ρ0 =>
    (match foldR (fun ρ1 => guardOk (wipeE ρ1 vs) q.1 q.2) (fun acc x ρ1 => match asgT v x (wipeE ρ1 vs) with
      | none => .bad
      | some ρ2 => (evC p Φ cs ρ2).bind fun b ρ3 => if b then (evE p Φ e ρ3).bind fun r ρ4 => (match frz ρ4 r with
        | some (d, ρ5) => if fitN acc.length then .ok (acc ++ [d]) ρ5 else .bad
        | none => .bad) else .ok acc ρ3) q.1 [] (wipeE ρ0 vs) with
    | .ok acc ρ1 => .ok (.val (.own (.lst acc))) (restE ρ0 ρ1 vs)
    | _ => .bad)
def evEs (p : Pg) (Φ : Orc) : List IE → Env → Res (List Rv)
  | [], ρ => .ok [] ρ
  | e :: es, ρ => (evE p Φ e ρ).bind fun r ρ => (evEs p Φ es ρ).bind fun rs ρ => .ok (r :: rs) ρ
def evO (p : Pg) (Φ : Orc) : Option IE → Env → Res (Option Int)
  | none, ρ => .ok none ρ
  | some e, ρ => (evE p Φ e ρ).bind fun r ρ => (match partI ρ r with
    | some i => .ok (some i) ρ
    | none => .bad)
/-- a clause's tests -/
def evC (p : Pg) (Φ : Orc) : List IE → Env → Res Bool
  | [], ρ => .ok true ρ
  | c :: cs, ρ => (evE p Φ c ρ).bind fun r ρ => (match (r.data ρ).bind truD with
    | some true => evC p Φ cs ρ
    | some false => .ok false ρ
    | none => .bad)
def evI (p : Pg) (Φ : Orc) : II → Env → Res (List PyData × Option Nat)
  | .val e, ρ => (evE p Φ e ρ).bind fun r ρ => (match r with
    | .slot i => (match getS ρ i with
      | some (.own (.lst ds)) => .ok (ds, some i) ρ
      | _ => .bad)
    | .val (.dat (.list ds)) => .ok (ds, none) ρ
    | .val (.dat (.tuple ds)) => .ok (ds, none) ρ
    | .val (.own (.lst ds)) => .ok (ds, none) ρ
    | .val (.dat (.str x)) => .ok (x.cps.toList.map fun c => .str ⟨#[c]⟩, none) ρ
    | _ => .bad)
  | .rng es, ρ => (evEs p Φ es ρ).bind fun rs ρ => (match (dataAll ρ rs).bind rangeD with
    | some xs => .ok (xs, none) ρ
    | none => .bad)
  | .enum e, ρ => (evE p Φ e ρ).bind fun r ρ => (match r with
    | .slot i => (match getS ρ i with
      | some (.own (.lst ds)) => .ok (enumD ds, none) (ρ.set i (some (.dat (.list ds))))
      | _ => .bad)
    | r => (match r.data ρ with
      | some (.list xs) => .ok (enumD xs, none) ρ
      | _ => .bad))
  | .zip a b, ρ => (evE p Φ a ρ).bind fun ra ρ => (evE p Φ b ρ).bind fun rb ρ => (match frzAll ρ [ra, rb] with
    | some ([.list xs, .list ys], ρ) => .ok (zipD xs ys, none) ρ
    | some ([.tuple xs, .tuple ys], ρ) => .ok (zipD xs ys, none) ρ
    | _ => .bad)
end

/-! ### statements -/
inductive SRes where
  | nx (ρ : Env)
  | brk (ρ : Env)
  | cnt (ρ : Env)
  | ret (s : Sv) (ρ : Env)
  | exc (c : Nat) (fs : List (Str × PyData)) (ρ : Env)
  | bad
def Res.st {α : Type} : Res α → (α → Env → SRes) → SRes
  | .ok a ρ, f => f a ρ
  | .exc c fs ρ, _ => .exc c fs ρ
  | .bad, _ => .bad
def SRes.seq : SRes → (Env → SRes) → SRes
  | .nx ρ, f => f ρ
  | r, _ => r
/-- what a for's turn leaves -/
def SRes.turn : SRes → (Env → SRes) → SRes
  | .nx ρ, f => f ρ
  | .cnt ρ, f => f ρ
  | .brk ρ, _ => .nx ρ
  | r, _ => r
def nxO : Option Env → SRes
  | some ρ => .nx ρ
  | none => .bad
/-- x = r (a thing that a slot owns becomes data) -/
def setV (ρ : Env) (i : Nat) (r : Rv) : Option Env := (lend1 ρ r false).map fun q => q.2.1.set i (some q.1)
def asgV (ρ : Env) : Tgt → Rv → Option Env
  | .name i, r => setV ρ i r
  | .tup ts, r => ((r.data ρ).bind fun d => match d with
    | .tuple ds => asgTs ts ds ρ
    | _ => none)
/-- return r: what a parameter's slot owns becomes data, what another slot owns is handed over -/
def isLoc (np : Nat) : Rv → Bool
  | .val _ => true
  | .slot j => !decide (j < np)
def retV (np : Nat) (ρ : Env) (r : Rv) : SRes := match lend1 ρ r (isLoc np r) with
  | some q => .ret q.1 q.2.1
  | none => .bad
def foldS (gd : Env → Bool) (f : PyData → Env → SRes) : List PyData → Env → SRes
  | [], ρ => if gd ρ then .nx ρ else .bad
  | x :: xs, ρ => if gd ρ then (f x ρ).turn fun ρ' => foldS gd f xs ρ' else .bad
def whileS (c : Env → Res Bool) (b : Env → SRes) : Nat → Env → SRes
  | 0, _ => .bad
  | n + 1, ρ => (c ρ).st fun t ρ1 => if t then (b ρ1).turn fun ρ2 => whileS c b n ρ2 else .nx ρ1
def augV (op : BOp) (x y : PyData) : Option PyData := match op, x, y with
  | .add, .int i, .int j => some (.int (i + j))
  | .sub, .int i, .int j => some (.int (i - j))
  | _, _, _ => none
/-- the clauses: the first one whose class takes the exception -/
def pickH {α : Type} (sub : Sub) (c : Nat) : List (Nat × Option Nat × α) → Option (Option Nat × α)
  | [] => none
  | (k, n, b) :: r => if sub c k then some (n, b) else pickH sub c r
/-- how many turns a while is given -/
def turns : Nat := 1000000
/-- no slot holds an exception -/
def noExc (ρ : Env) : Bool := ρ.all fun o => match o with
  | some (.exc _ _) => false
  | _ => true
def notExc : Sv → Bool
  | .exc _ _ => false
  | _ => true
/-- behind a suite: its name goes -/
def SRes.leave (i : Nat) : SRes → SRes
  | .nx ρ => if noExc (ρ.set i none) then .nx (ρ.set i none) else .bad
  | .brk ρ => if noExc (ρ.set i none) then .brk (ρ.set i none) else .bad
  | .cnt ρ => if noExc (ρ.set i none) then .cnt (ρ.set i none) else .bad
  | .ret s ρ => if noExc (ρ.set i none) && notExc s then .ret s (ρ.set i none) else .bad
  | .exc _ _ _ => .bad
  | .bad => .bad
/-- behind a suite without a name -/
def SRes.leave0 : SRes → SRes
  | .nx ρ => if noExc ρ then .nx ρ else .bad
  | .brk ρ => if noExc ρ then .brk ρ else .bad
  | .cnt ρ => if noExc ρ then .cnt ρ else .bad
  | .ret s ρ => if noExc ρ && notExc s then .ret s ρ else .bad
  | .exc _ _ _ => .bad
  | .bad => .bad
def handle (sub : Sub) (c : Nat) (fs : List (Str × PyData)) (ρ : Env) : List (Nat × Option Nat × (Env → SRes)) → SRes
  | [] => .exc c fs ρ
  | (k, n, b) :: r => if sub c k then (if noExc ρ then (match n with
      | none => (b ρ).leave0
      | some i => (b (ρ.set i (some (.exc c fs)))).leave i) else .bad) else handle sub c fs ρ r
def setMany (ρ : Env) : List Nat → List Sv → Env
  | i :: is, s :: ss => setMany (ρ.set i (some s)) is ss
  | _, _ => ρ
/-- x[k] = d, the slot i owning x -/
def putAt (ρ : Env) (i : Nat) (kd d : PyData) : Option Env := match getS ρ i with
  | some (.own (.lst ds)) => (match kd with
    | .int j => (L2.ixN ds.length j).map fun n => ρ.set i (some (.own (.lst (ds.set n d))))
    | _ => none)
  | some (.own (.dic t kvs)) => if isKey kd && isTup kd == t && fitN kvs.length then some (ρ.set i (some (.own (.dic t (putD kvs kd d))))) else none
  | _ => none
def setAt (p : Pg) (Φ : Orc) (i : Nat) (k : IE) (d : PyData) (ρ : Env) : SRes := match getS ρ i with
  | some _ => (evE p Φ k ρ).st fun rk ρ => nxO ((rk.data ρ).bind fun kd => putAt ρ i kd d)
  | none => .bad
mutual
def evS (p : Pg) (Φ : Orc) (np : Nat) : IS → Env → SRes
  | .asg t e, ρ => (evE p Φ e ρ).st fun r ρ => nxO (asgV ρ t r)
  | .par is es, ρ => (evEs p Φ es ρ).st fun rs ρ => nxO ((lend ρ rs []).bind fun q => if decide is.Nodup && decide (is.length = q.1.length) then some (setMany q.2.1 is q.1) else none)
  | .aug i op e, ρ => (match getS ρ i with
    | some (.dat x) => (evE p Φ e ρ).st fun r ρ => nxO ((r.data ρ).bind fun y => (augV op x y).map fun d => ρ.set i (some (.dat d)))
    | _ => .bad)
  | .setIx i k e, ρ => (evE p Φ e ρ).st fun r ρ => (match frz ρ r with
    | some q => setAt p Φ i k q.1 q.2
    | none => .bad)
  | .setIx2 i k j l a b, ρ => (evEs p Φ [a, b] ρ).st fun rs ρ => (match frzAll ρ rs with
    | some ([x, y], ρ) => (setAt p Φ i k x ρ).seq fun ρ => setAt p Φ j l y ρ
    | _ => .bad)
  | .app i e, ρ => if (slotL ρ i).isSome then (evE p Φ e ρ).st fun r ρ => nxO ((frz ρ r).bind fun q => (slotL q.2 i).bind fun ds => appL q.2 i ds q.1) else .bad
  | .ext i e, ρ => if (slotL ρ i).isSome then (evE p Φ e ρ).st fun r ρ => nxO ((r.data ρ).bind fun y => (slotL ρ i).bind fun ds => extL ρ i ds y) else .bad
  | .ins i k e, ρ => if (slotL ρ i).isSome then (evEs p Φ [k, e] ρ).st fun rs ρ => nxO ((frzAll ρ rs).bind fun q => (slotL q.2 i).bind fun ds => insL q.2 i ds q.1) else .bad
  | .ifs c t e, ρ => ((evE p Φ c ρ).bind fun r ρ => truR ρ r).st fun b ρ => if b then evSs p Φ np t ρ else evSs p Φ np e ρ
  | .forr t it body, ρ => (evI p Φ it ρ).st fun q ρ => foldS (fun ρ => guardOk ρ q.1 q.2) (fun x ρ => match asgT t x ρ with
    | some ρ => evSs p Φ np body ρ
    | none => .bad) q.1 ρ
  | .whl c body, ρ => whileS (fun ρ => (evE p Φ c ρ).bind fun r ρ => truR ρ r) (fun ρ => evSs p Φ np body ρ) turns ρ
  | .ret e, ρ => (evE p Φ e ρ).st fun r ρ => retV np ρ r
  | .retN, ρ => .ret (.dat .none) ρ
  | .brk, ρ => .brk ρ
  | .cnt, ρ => .cnt ρ
  | .pass, ρ => .nx ρ
  | .expr e, ρ => (evE p Φ e ρ).st fun _ ρ => .nx ρ
  | .raise c es, ρ => (evEs p Φ es ρ).st fun _ ρ => .exc c [] ρ
  | .try_ body hs, ρ => (match evSs p Φ np body ρ with
    | .exc c fs ρ => handle p.sub c fs ρ (evHs p Φ np hs)
    | r => r)
  | .tryK body k i x hs is, ρ => (match evSs p Φ np body ρ with
    | .nx ρ1 => evSs p Φ np is ρ1
    | .exc c fs ρ1 => if p.sub c k then (if noExc ρ1 then (match evSs p Φ np hs (ρ1.set i (some (.exc c fs))) with
      | .nx ρ2 => (evSs p Φ np is (ρ2.set i none)).leave x
      | _ => .bad) else .bad) else .exc c fs ρ1
    | r => r)
def evSs (p : Pg) (Φ : Orc) (np : Nat) : List IS → Env → SRes
  | [], ρ => .nx ρ
  | s :: ss, ρ => (evS p Φ np s ρ).seq fun ρ => evSs p Φ np ss ρ
def evHs (p : Pg) (Φ : Orc) (np : Nat) : List (Nat × Option Nat × List IS) → List (Nat × Option Nat × (Env → SRes))
  | [] => []
  | (k, n, b) :: r => (k, n, fun ρ => evSs p Φ np b ρ) :: evHs p Φ np r
end
/-! ### defs -/
/-- the parameters' slots that are kept -/
def maskP : List Bool → Env → Env
  | _, [] => []
  | kp, s :: r => (if kp.headD false then s else none) :: maskP kp.tail r
def endF (kp : List Bool) (np : Nat) : SRes → Option FRes
  | .nx ρ => some (.ret (.dat .none) (maskP kp (ρ.take np)))
  | .ret s ρ => some (.ret s (maskP kp (ρ.take np)))
  | .exc c fs ρ => some (.exc c fs (maskP kp (ρ.take np)))
  | _ => none
def runF (p : Pg) (Φ : Orc) (d : FnI) (vs : List Sv) : Option FRes :=
  if vs.length = d.np then endF d.kp d.np (evSs p Φ d.np d.body (vs.map some ++ List.replicate (d.nl - d.np) none)) else none
/-- the defs, n calls deep -/
def orc (p : Pg) (fs : List FnI) : Nat → Orc
  | 0, _, _ => none
  | n + 1, f, vs => (fs[f]?).bind fun d => runF p (orc p fs n) d vs
end Mini
/-! Mini, part B: data and containers in the abstract heap. -/
namespace Mini
open PySem L2

/-! ### data that stands in F -/
def kD : L2.Key → PyData
  | .inl i => .int i
  | .inr x => .str x
/-- a tuple that stands in the written part -/
def ConT (K : PySem.W.Frag) (a : Addr) (xs : List V) : Prop := ∃ (o : Obj) (its : Array Value) (n : Nat), K.lookup a = some o ∧ o.cls = .type "tuple" ∧ o.data = .seq its n ∧ its.size ≤ sizeLine ∧ Vals xs its.toList
/-- a list that nobody changes: in the abstract heap, or in the written part -/
def LstAt (K : PySem.W.Frag) (F : Hp) (a : Addr) (xs : List V) : Prop := Rd F a (.lst xs) ∨ ∃ (its : List Value) (n : Nat), K.lookup a = some { cls := .type "list", data := .seq its.toArray n } ∧ xs.length ≤ sizeLine ∧ Vals xs its
theorem LstAt.sq {K : PySem.W.Frag} {F : Hp} {a : Addr} {xs : List V} (h : LstAt K F a xs) : SqL K F a xs := by
  rcases h with h | ⟨its, n, h, hz, r⟩
  · exact .inl h
  · exact .inr ⟨_, its.toArray, n, h, rfl, rfl, rfl, by rw [List.size_toArray, ← r.length]; exact hz, by simpa using r⟩
theorem LstAt.ok {X : Cx} {pins : List (Addr × Obj)} {σ : L2.St} {H : Hp} {s : Shared} {a : Addr} {xs : List V} (h : LstAt X.K H a xs) (I : Inv X pins σ H s) :
    xs.length ≤ sizeLine ∧ ∃ (its : List Value) (n : Nat), Vals xs its ∧ s.heap.get? a = some { cls := .type "list", data := .seq its.toArray n } := by
  rcases h with h | ⟨its, n, h, hz, r⟩
  · exact h.ok I.hok
  · exact ⟨hz, its, n, r, I.kIn a _ h⟩
mutual
inductive Rp (K : PySem.W.Frag) (F : Hp) : V → PyData → Prop
  | non : Rp K F .non .none
  | bl (b : Bool) : Rp K F (.bl b) (.bool b)
  | int (i : Int) : Rp K F (.int i) (.int i)
  | str (x : Str) : Rp K F (.str x) (.str x)
  | lst {a : Addr} {xs : List V} {ds : List PyData} : LstAt K F a xs → RpAll K F xs ds → Rp K F (.ref a) (.list ds)
  | tup {a : Addr} {xs : List V} {ds : List PyData} : F a = some (.tup xs) → RpAll K F xs ds → Rp K F (.ref a) (.tuple ds)
  | con {a : Addr} {xs : List V} {ds : List PyData} : ConT K a xs → conLike (.tuple ds) = true → RpAll K F xs ds → Rp K F (.ref a) (.tuple ds)
  | dicK {a : Addr} {ks : List (L2.Key × V)} {kvs : List (PyData × PyData)} : F a = some (.dK ks) → ks.map (fun p => kD p.1) = kvs.map (·.1) → RpAll K F (ks.map (·.2)) (kvs.map (·.2)) → Rp K F (.ref a) (.dict kvs)
  | dicT {a : Addr} {ks : List (List L2.Key × V)} {kvs : List (PyData × PyData)} : F a = some (.dT ks) → ks.map (fun p => .tuple (p.1.map kD)) = kvs.map (·.1) → RpAll K F (ks.map (·.2)) (kvs.map (·.2)) → Rp K F (.ref a) (.dict kvs)
inductive RpAll (K : PySem.W.Frag) (F : Hp) : List V → List PyData → Prop
  | nil : RpAll K F [] []
  | cons {v : V} {vs : List V} {d : PyData} {ds : List PyData} : Rp K F v d → RpAll K F vs ds → RpAll K F (v :: vs) (d :: ds)
end
def Ex (F F' : Hp) : Prop := ∀ a o, F a = some o → F' a = some o
theorem Ex.refl (F : Hp) : Ex F F := fun _ _ h => h
theorem Ex.trans {F F1 F2 : Hp} (a : Ex F F1) (b : Ex F1 F2) : Ex F F2 := fun x o h => b x o (a x o h)
theorem sqL_ex {K : PySem.W.Frag} {F F' : Hp} {a : Addr} {xs : List V} (e : Ex F F') (h : SqL K F a xs) : SqL K F' a xs := by
  rcases h with (h | ⟨o, h⟩) | h
  · exact .inl (.inl (e _ _ h))
  · exact .inl (.inr ⟨o, e _ _ h⟩)
  · exact .inr h
theorem rd_ex {F F' : Hp} {a : Addr} {u : HO} (e : Ex F F') (h : Rd F a u) : Rd F' a u := by
  rcases h with h | ⟨o, h⟩
  · exact .inl (e _ _ h)
  · exact .inr ⟨o, e _ _ h⟩
theorem lstAt_ex {K : PySem.W.Frag} {F F' : Hp} {a : Addr} {xs : List V} (e : Ex F F') (h : LstAt K F a xs) : LstAt K F' a xs := by
  rcases h with (h | ⟨o, h⟩) | h
  · exact .inl (.inl (e _ _ h))
  · exact .inl (.inr ⟨o, e _ _ h⟩)
  · exact .inr h
theorem sqT_ex {K : PySem.W.Frag} {F F' : Hp} {a : Addr} {xs : List V} (e : Ex F F') (h : SqT K F a xs) : SqT K F' a xs := by
  rcases h with (h | ⟨o, h⟩) | h
  · exact .inl (.inl (e _ _ h))
  · exact .inl (.inr ⟨o, e _ _ h⟩)
  · exact .inr h
mutual
theorem Rp.mono {K : PySem.W.Frag} {F F' : Hp} (e : Ex F F') : ∀ {v : V} {d : PyData}, Rp K F v d → Rp K F' v d
  | _, _, .non => .non
  | _, _, .bl b => .bl b
  | _, _, .int i => .int i
  | _, _, .str x => .str x
  | _, _, .lst h r => .lst (lstAt_ex e h) (RpAll.mono e r)
  | _, _, .tup h r => .tup (e _ _ h) (RpAll.mono e r)
  | _, _, .con h c r => .con h c (RpAll.mono e r)
  | _, _, .dicK h k r => .dicK (e _ _ h) k (RpAll.mono e r)
  | _, _, .dicT h k r => .dicT (e _ _ h) k (RpAll.mono e r)
theorem RpAll.mono {K : PySem.W.Frag} {F F' : Hp} (e : Ex F F') : ∀ {vs : List V} {ds : List PyData}, RpAll K F vs ds → RpAll K F' vs ds
  | _, _, .nil => .nil
  | _, _, .cons h r => .cons (Rp.mono e h) (RpAll.mono e r)
end
theorem RpAll.length {K : PySem.W.Frag} {F : Hp} : ∀ {vs : List V} {ds : List PyData}, RpAll K F vs ds → vs.length = ds.length
  | _, _, .nil => rfl
  | _, _, .cons _ r => by rw [List.length_cons, List.length_cons, RpAll.length r]
theorem RpAll.get {K : PySem.W.Frag} {F : Hp} : ∀ {vs : List V} {ds : List PyData} {i : Nat} {d : PyData}, RpAll K F vs ds → ds[i]? = some d → ∃ v, vs[i]? = some v ∧ Rp K F v d
  | _, _, _, _, .nil, h => by simp at h
  | _, _, 0, _, .cons r _, h => by
    simp at h
    subst h
    exact ⟨_, rfl, r⟩
  | _, _, i + 1, _, .cons _ t, h => by
    obtain ⟨v, e, r⟩ := RpAll.get (i := i) t (by simpa using h)
    exact ⟨v, by simpa using e, r⟩
theorem RpAll.get' {K : PySem.W.Frag} {F : Hp} : ∀ {vs : List V} {ds : List PyData} {i : Nat} {v : V}, RpAll K F vs ds → vs[i]? = some v → ∃ d, ds[i]? = some d ∧ Rp K F v d
  | _, _, _, _, .nil, h => by simp at h
  | _, _, 0, _, .cons r _, h => by
    simp at h
    subst h
    exact ⟨_, rfl, r⟩
  | _, _, i + 1, _, .cons _ t, h => by
    obtain ⟨v, e, r⟩ := RpAll.get' (i := i) t (by simpa using h)
    exact ⟨v, by simpa using e, r⟩
theorem RpAll.append {K : PySem.W.Frag} {F : Hp} : ∀ {vs us : List V} {ds es : List PyData}, RpAll K F vs ds → RpAll K F us es → RpAll K F (vs ++ us) (ds ++ es)
  | _, _, _, _, .nil, s => s
  | _, _, _, _, .cons r t, s => .cons r (RpAll.append t s)
theorem RpAll.take {K : PySem.W.Frag} {F : Hp} : ∀ {vs : List V} {ds : List PyData} (n : Nat), RpAll K F vs ds → RpAll K F (vs.take n) (ds.take n)
  | _, _, 0, _ => .nil
  | _, _, _ + 1, .nil => .nil
  | _, _, n + 1, .cons r t => .cons r (RpAll.take n t)
theorem RpAll.drop {K : PySem.W.Frag} {F : Hp} : ∀ {vs : List V} {ds : List PyData} (n : Nat), RpAll K F vs ds → RpAll K F (vs.drop n) (ds.drop n)
  | _, _, 0, r => r
  | _, _, _ + 1, .nil => .nil
  | _, _, n + 1, .cons _ t => RpAll.drop n t
theorem RpAll.set {K : PySem.W.Frag} {F : Hp} {v : V} {d : PyData} (r : Rp K F v d) : ∀ {vs : List V} {ds : List PyData} (n : Nat), RpAll K F vs ds → RpAll K F (vs.set n v) (ds.set n d)
  | _, _, _, .nil => .nil
  | _, _, 0, .cons _ t => .cons r t
  | _, _, n + 1, .cons q t => .cons q (RpAll.set r n t)
theorem RpAll.eraseIdx {K : PySem.W.Frag} {F : Hp} : ∀ {vs : List V} {ds : List PyData} (n : Nat), RpAll K F vs ds → RpAll K F (vs.eraseIdx n) (ds.eraseIdx n)
  | _, _, _, .nil => .nil
  | _, _, 0, .cons _ t => t
  | _, _, n + 1, .cons q t => .cons q (RpAll.eraseIdx n t)
theorem RpAll.one {K : PySem.W.Frag} {F : Hp} {v : V} {d : PyData} (r : Rp K F v d) : RpAll K F [v] [d] := .cons r .nil
theorem RpAll.reverse {K : PySem.W.Frag} {F : Hp} : ∀ {vs : List V} {ds : List PyData}, RpAll K F vs ds → RpAll K F vs.reverse ds.reverse
  | _, _, .nil => .nil
  | _, _, .cons r t => by
    rw [List.reverse_cons, List.reverse_cons]
    exact RpAll.append (RpAll.reverse t) (.one r)

/-! ### containers, what a slot holds -/
/-- the container c stands at a; its items in F -/
def CtAt (K : PySem.W.Frag) (F H : Hp) (a : Addr) : Ct → Prop
  | .lst ds => ∃ xs, H a = some (.lst xs) ∧ RpAll K F xs ds
  | .dic false kvs => ∃ ks, H a = some (.dK ks) ∧ ks.map (fun p => kD p.1) = kvs.map (·.1) ∧ RpAll K F (ks.map (·.2)) (kvs.map (·.2))
  | .dic true kvs => ∃ ks, H a = some (.dT ks) ∧ ks.map (fun p => PyData.tuple (p.1.map kD)) = kvs.map (·.1) ∧ RpAll K F (ks.map (·.2)) (kvs.map (·.2))
/-- exceptions that are held: by the address of the object, the class's number, the fields -/
abbrev EP := Addr → Nat → List (Str × PyData) → Prop
def SvAt (K : PySem.W.Frag) (E : EP) (F H : Hp) (v : V) : Sv → Prop
  | .dat d => Rp K F v d
  | .own c => ∃ a, v = .ref a ∧ F a = none ∧ CtAt K F H a c
  | .exc c fs => ∃ a, v = .ref a ∧ E a c fs
  | .glt ds => ∃ a xs, v = .ref a ∧ (∃ o, K.lookup a = some o ∧ o.cls = .type "tuple" ∧ o.dict = none) ∧ ConT K a xs ∧ conLike (.tuple ds) = true ∧ ∀ F', RpAll K F' xs ds
theorem glt_rp {K : PySem.W.Frag} {E : EP} {F H F' : Hp} {v : V} {ds : List PyData} (q : SvAt K E F H v (.glt ds)) : Rp K F' v (.tuple ds) := by
  obtain ⟨a, xs, rfl, _, h1, h2, h3⟩ := q
  exact .con h1 h2 (h3 F')
theorem CtAt.keep {K : PySem.W.Frag} {F F' H H' : Hp} {a : Addr} {c : Ct} (e : Ex F F') (h : ∀ o, H a = some o → H' a = some o) (x : CtAt K F H a c) : CtAt K F' H' a c := by
  cases c with
  | lst ds =>
    obtain ⟨xs, h1, r⟩ := x
    exact ⟨xs, h _ h1, r.mono e⟩
  | dic t kvs =>
    cases t <;>
    · obtain ⟨ks, h1, k, r⟩ := x
      exact ⟨ks, h _ h1, k, r.mono e⟩
theorem CtAt.there {K : PySem.W.Frag} {F H : Hp} {a : Addr} {c : Ct} (x : CtAt K F H a c) : ∃ o, H a = some o := by
  cases c with
  | lst ds =>
    obtain ⟨xs, h1, r⟩ := x
    exact ⟨_, h1⟩
  | dic t kvs =>
    cases t <;>
    · obtain ⟨ks, h1, k, r⟩ := x
      exact ⟨_, h1⟩
/-- as data, where it stands in F -/
theorem CtAt.rp {K : PySem.W.Frag} {F F' H : Hp} {a : Addr} {c : Ct} (e : Ex F F') (h : ∀ o, H a = some o → F' a = some o) (x : CtAt K F H a c) : Rp K F' (.ref a) c.data := by
  cases c with
  | lst ds =>
    obtain ⟨xs, h1, r⟩ := x
    exact .lst (.inl (.inl (h _ h1))) (r.mono e)
  | dic t kvs =>
    cases t
    · obtain ⟨ks, h1, k, r⟩ := x
      exact .dicK (h _ h1) k (r.mono e)
    · obtain ⟨ks, h1, k, r⟩ := x
      exact .dicT (h _ h1) k (r.mono e)

/-! ### a state: slots (of any kind of index), the frozen part, the heap -/
section
variable {ι κ ι' : Type}
def Owns (s : ι → Option Sv) (v : ι → Option V) (i : ι) (a : Addr) : Prop := (∃ c, s i = some (.own c)) ∧ v i = some (.ref a)
def Own (s : ι → Option Sv) (v : ι → Option V) (a : Addr) : Prop := ∃ i, Owns s v i a
structure SOk (K : PySem.W.Frag) (E : EP) (s : ι → Option Sv) (v : ι → Option V) (F H : Hp) : Prop where
  sub : Ex F H
  at_ : ∀ i x, s i = some x → ∃ u, v i = some u ∧ SvAt K E F H u x
  inj : ∀ i j a, Owns s v i a → Owns s v j a → i = j
structure Stp (P : Addr → Prop) (F H F' H' : Hp) : Prop where
  ex : Ex F F'
  keep : ∀ b o, H b = some o → ¬ P b → H' b = some o
  grow : ∀ b o, F' b = some o → F b = none → H b = none ∨ P b
theorem Stp.refl (P : Addr → Prop) (F H : Hp) : Stp P F H F H := ⟨Ex.refl F, fun _ _ h _ => h, fun b o h h' => by rw [h] at h'; cases h'⟩
theorem Stp.trans {P P1 : Addr → Prop} {F H F1 H1 F2 H2 : Hp} (a : Stp P F H F1 H1) (b : Stp P1 F1 H1 F2 H2) (l : ∀ x, P1 x → P x ∨ H x = none) : Stp P F H F2 H2 := by
  refine ⟨a.ex.trans b.ex, fun x o h n => ?_, fun x o h n => ?_⟩
  · refine b.keep x o (a.keep x o h n) fun p => ?_
    rcases l x p with q | q
    · exact n q
    · rw [h] at q
      cases q
  · cases e : F1 x with
    | some u => exact a.grow x u e n
    | none =>
      rcases b.grow x o h e with q | q
      · cases hx : H x with
        | none => exact .inl rfl
        | some u =>
          refine .inr ?_
          by_cases p : P x
          · exact p
          · rw [a.keep x u hx p] at q
            cases q
      · rcases l x q with z | z
        · exact .inr z
        · exact .inl z
theorem Stp.imp {P P' : Addr → Prop} {F H F' H' : Hp} (a : Stp P F H F' H') (l : ∀ x, P x → P' x ∨ H x = none) : Stp P' F H F' H' :=
  (Stp.refl P' F H).trans a l
theorem SOk.own {K : PySem.W.Frag} {E : EP} {s : ι → Option Sv} {v : ι → Option V} {F H : Hp} (x : SOk K E s v F H) {a : Addr} (h : Own s v a) : F a = none ∧ ∃ o, H a = some o := by
  obtain ⟨i, ⟨c, hc⟩, hv⟩ := h
  obtain ⟨u, hu, b, e, n, z⟩ := x.at_ i _ hc
  rw [hv] at hu
  cases hu
  cases e
  exact ⟨n, z.there⟩
/-- a part of the slots: what is owned has one place -/
theorem SOk.partO {K : PySem.W.Frag} {E : EP} {s : ι → Option Sv} {v : ι → Option V} {s' : ι' → Option Sv} {v' : ι' → Option V} {F H : Hp} (x : SOk K E s v F H) (f : ι' → ι) (hf : ∀ i j c c', s' i = some (.own c) → s' j = some (.own c') → f i = f j → i = j)
    (hs : ∀ i, s' i ≠ none → s' i = s (f i) ∧ v' i = v (f i)) : SOk K E s' v' F H := by
  refine ⟨x.sub, fun i y h => ?_, fun i j a hi hj => ?_⟩
  · obtain ⟨e1, e2⟩ := hs i (by rw [h]; exact fun z => nomatch z)
    obtain ⟨u, hu, q⟩ := x.at_ (f i) y (by rw [← e1, h])
    exact ⟨u, by rw [e2, hu], q⟩
  · obtain ⟨⟨c, hc⟩, hv⟩ := hi
    obtain ⟨⟨c', hc'⟩, hv'⟩ := hj
    obtain ⟨e1, e2⟩ := hs i (by rw [hc]; exact fun z => nomatch z)
    obtain ⟨e3, e4⟩ := hs j (by rw [hc']; exact fun z => nomatch z)
    exact hf i j c c' hc hc' (x.inj (f i) (f j) a ⟨⟨c, by rw [← e1, hc]⟩, by rw [← e2, hv]⟩ ⟨⟨c', by rw [← e3, hc']⟩, by rw [← e4, hv']⟩)
theorem SOk.part {K : PySem.W.Frag} {E : EP} {s : ι → Option Sv} {v : ι → Option V} {s' : ι' → Option Sv} {v' : ι' → Option V} {F H : Hp} (x : SOk K E s v F H) (f : ι' → ι) (hf : ∀ i j, s' i ≠ none → s' j ≠ none → f i = f j → i = j)
    (hs : ∀ i, s' i ≠ none → s' i = s (f i) ∧ v' i = v (f i)) : SOk K E s' v' F H :=
  x.partO f (fun i j c c' h h' e => hf i j (by rw [h]; exact fun z => nomatch z) (by rw [h']; exact fun z => nomatch z) e) hs
/-- THE FRAME: a part of the slots takes a step, the others stay -/
theorem SOk.frame {K : PySem.W.Frag} {E : EP} {s1 : ι → Option Sv} {v1 : ι → Option V} {s2 : κ → Option Sv} {v2 : κ → Option V} {s1' : ι' → Option Sv} {v1' : ι' → Option V} {F H F' H' : Hp}
    (x : SOk K E (Sum.elim s1 s2) (Sum.elim v1 v2) F H) (y : SOk K E s1' v1' F' H') (t : Stp (Own s1 v1) F H F' H') (l : ∀ b, Own s1' v1' b → Own s1 v1 b ∨ H b = none) :
    SOk K E (Sum.elim s1' s2) (Sum.elim v1' v2) F' H' := by
  have n2 : ∀ j a, Owns s2 v2 j a → ¬ Own s1 v1 a := fun j a hj ⟨i, hi⟩ => by
    have := x.inj (.inl i) (.inr j) a hi hj
    cases this
  have h2 : ∀ j a, Owns s2 v2 j a → ∃ o, H a = some o := fun j a hj => (x.own ⟨.inr j, hj⟩).2
  refine ⟨y.sub, fun i z h => ?_, fun i j a hi hj => ?_⟩
  · cases i with
    | inl i => exact y.at_ i z h
    | inr i =>
      obtain ⟨u, hu, q⟩ := x.at_ (.inr i) z h
      refine ⟨u, hu, ?_⟩
      cases z with
      | dat d => exact Rp.mono t.ex q
      | own c =>
        obtain ⟨a, rfl, n, r⟩ := q
        have ho : Owns s2 v2 i a := ⟨⟨c, h⟩, hu⟩
        obtain ⟨o, e⟩ := h2 i a ho
        refine ⟨a, rfl, ?_, r.keep t.ex fun o' e' => t.keep a o' e' (n2 i a ho)⟩
        cases f : F' a with
        | none => rfl
        | some u =>
          rcases t.grow a u f n with w | w
          · rw [e] at w
            cases w
          · exact absurd w (n2 i a ho)
      | exc c fs => exact q
      | glt ds => exact q
  · cases i with
    | inl i =>
      cases j with
      | inl j => exact congrArg Sum.inl (y.inj i j a hi hj)
      | inr j =>
        exfalso
        rcases l a ⟨i, hi⟩ with w | w
        · exact n2 j a hj w
        · obtain ⟨o, e⟩ := h2 j a hj
          rw [e] at w
          cases w
    | inr i =>
      cases j with
      | inl j =>
        exfalso
        rcases l a ⟨j, hj⟩ with w | w
        · exact n2 i a hi w
        · obtain ⟨o, e⟩ := h2 i a hi
          rw [e] at w
          cases w
      | inr j =>
        have := x.inj (.inr i) (.inr j) a hi hj
        cases this
        rfl
end
end Mini
/-! Mini, part C: what an expression leaves. -/
namespace Mini
open PySem L2

def gv (σ : St) (i : Nat) : Option V := (σ[i]?).join
def tmp (rs : List Rv) (n : Nat) : Option Sv := match rs[n]? with
  | some (.val s) => some s
  | _ => none
def vat (vs : List V) (n : Nat) : Option V := vs[n]?
theorem own_sum {ι κ : Type} {s1 : ι → Option Sv} {v1 : ι → Option V} {s2 : κ → Option Sv} {v2 : κ → Option V} {b : Addr} : Own (Sum.elim s1 s2) (Sum.elim v1 v2) b ↔ Own s1 v1 b ∨ Own s2 v2 b := by
  constructor
  · rintro ⟨i, h⟩
    cases i with
    | inl i => exact .inl ⟨i, h⟩
    | inr i => exact .inr ⟨i, h⟩
  · rintro (⟨i, h⟩ | ⟨i, h⟩)
    · exact ⟨.inl i, h⟩
    · exact ⟨.inr i, h⟩
theorem getS_set {ρ : Env} {i j : Nat} {x : Option Sv} (h : (getS ρ i).isSome = true) : getS (ρ.set i x) j = if j = i then x else getS ρ j := by
  have hi : i < ρ.length := by
    unfold getS at h
    by_cases hl : i < ρ.length
    · exact hl
    · rw [List.getElem?_eq_none (by omega)] at h
      cases h
  unfold getS
  by_cases e : j = i
  · subst e
    rw [if_pos rfl, List.getElem?_set_self hi]
    rfl
  · rw [if_neg e, List.getElem?_set_ne (fun z => e z.symm)]
theorem getS_set_ne {ρ : Env} {i j : Nat} {x : Option Sv} (h : j ≠ i) : getS (ρ.set i x) j = getS ρ j := by
  unfold getS
  rw [List.getElem?_set_ne (fun z => h z.symm)]
theorem getS_set_lt {ρ : Env} {i : Nat} {x : Option Sv} (h : i < ρ.length) : getS (ρ.set i x) i = x := by
  unfold getS
  rw [List.getElem?_set_self h]
  rfl
theorem getS_lt {ρ : Env} {i : Nat} {s : Sv} (h : getS ρ i = some s) : i < ρ.length := by
  unfold getS at h
  by_cases hl : i < ρ.length
  · exact hl
  · rw [List.getElem?_eq_none (by omega)] at h
    cases h

structure PostL (K : PySem.W.Frag) (E : EP) (ρ : Env) (σ : St) (F H : Hp) (ρ' : Env) (rs : List Rv) (vs : List V) (F' H' : Hp) : Prop where
  ok : SOk K E (Sum.elim (getS ρ') (tmp rs)) (Sum.elim (gv σ) (vat vs)) F' H'
  stp : Stp (Own (getS ρ) (gv σ)) F H F' H'
  lnk : ∀ b, Own (Sum.elim (getS ρ') (tmp rs)) (Sum.elim (gv σ) (vat vs)) b → Own (getS ρ) (gv σ) b ∨ H b = none
  len : ρ'.length = ρ.length
  vl : rs.length = vs.length
  som : ∀ i, (getS ρ i).isSome = true → (getS ρ' i).isSome = true
  slot : ∀ n i, rs[n]? = some (.slot i) → vat vs n = gv σ i ∧ (getS ρ' i).isSome = true

section
variable {K : PySem.W.Frag} {E : EP} {ρ ρ1 ρ2 : Env} {σ : St} {F H F1 H1 F2 H2 : Hp} {rs qs : List Rv} {vs us : List V}
theorem tmp_nil (n : Nat) : tmp [] n = none := by
  unfold tmp
  rw [List.getElem?_nil]
theorem SOk.left {ι κ : Type} {s1 : ι → Option Sv} {v1 : ι → Option V} {s2 : κ → Option Sv} {v2 : κ → Option V} (x : SOk K E (Sum.elim s1 s2) (Sum.elim v1 v2) F H) : SOk K E s1 v1 F H :=
  x.part Sum.inl (fun _ _ _ _ h => by cases h; rfl) fun i _ => ⟨rfl, rfl⟩
theorem PostL.st (x : PostL K E ρ σ F H ρ1 rs vs F1 H1) : SOk K E (getS ρ1) (gv σ) F1 H1 := x.ok.left
theorem SOk.nil (x : SOk K E (getS ρ) (gv σ) F H) : SOk K E (Sum.elim (getS ρ) (tmp [])) (Sum.elim (gv σ) (vat [])) F H := by
  refine x.part (fun i => match i with
      | .inl i => i
      | .inr n => n) (fun i j hi hj e => ?_) (fun i h => ?_)
  · cases i with
    | inr n => exact absurd (tmp_nil n) hi
    | inl i => cases j with
      | inr n => exact absurd (tmp_nil n) hj
      | inl j => exact congrArg Sum.inl e
  · cases i with
    | inl i => exact ⟨rfl, rfl⟩
    | inr n => exact absurd (tmp_nil n) h
theorem own_nil {b : Addr} (h : Own (Sum.elim (getS ρ) (tmp [])) (Sum.elim (gv σ) (vat vs)) b) : Own (getS ρ) (gv σ) b := by
  rcases own_sum.mp h with h | ⟨n, ⟨c, hc⟩, _⟩
  · exact h
  · rw [tmp_nil] at hc
    cases hc
theorem PostL.refl (x : SOk K E (getS ρ) (gv σ) F H) : PostL K E ρ σ F H ρ [] [] F H :=
  ⟨x.nil, Stp.refl _ _ _, fun b h => .inl (own_nil h), rfl, rfl, fun _ h => h, fun n i h => by simp at h⟩
/-- the temporaries let go -/
theorem PostL.drop (x : PostL K E ρ σ F H ρ1 rs vs F1 H1) : PostL K E ρ σ F H ρ1 [] [] F1 H1 :=
  ⟨x.st.nil, x.stp, fun b h => x.lnk b (own_sum.mpr (.inl (own_nil h))), x.len, rfl, x.som, fun n i h => by simp at h⟩
theorem tmp_left {n : Nat} (h : n < rs.length) : tmp (rs ++ qs) n = tmp rs n := by
  unfold tmp
  rw [List.getElem?_append_left h]
theorem tmp_right {n : Nat} (h : rs.length ≤ n) : tmp (rs ++ qs) n = tmp qs (n - rs.length) := by
  unfold tmp
  rw [List.getElem?_append_right h]
/-- one after the other -/
theorem PostL.seq (x : PostL K E ρ σ F H ρ1 rs vs F1 H1) (y : PostL K E ρ1 σ F1 H1 ρ2 qs us F2 H2) : PostL K E ρ σ F H ρ2 (rs ++ qs) (vs ++ us) F2 H2 := by
  have hl := x.vl
  have base := x.ok.frame y.ok y.stp y.lnk
  have back : ∀ b, H1 b = none → Own (getS ρ) (gv σ) b ∨ H b = none := fun b h => by
    cases e : H b with
    | none => exact .inr rfl
    | some o =>
      refine .inl ?_
      by_cases p : Own (getS ρ) (gv σ) b
      · exact p
      · rw [x.stp.keep b o e p] at h
        cases h
  have up : ∀ b, Own (getS ρ1) (gv σ) b → Own (getS ρ) (gv σ) b ∨ H b = none := fun b h => x.lnk b (own_sum.mpr (.inl h))
  have e : ∀ i : Nat ⊕ Nat, Sum.elim (getS ρ2) (tmp (rs ++ qs)) i ≠ none →
      (Sum.elim (getS ρ2) (tmp (rs ++ qs)) i = Sum.elim (Sum.elim (getS ρ2) (tmp qs)) (tmp rs) (match i with
        | .inl i => Sum.inl (Sum.inl i)
        | .inr n => if n < rs.length then Sum.inr n else Sum.inl (Sum.inr (n - rs.length))) ∧
      Sum.elim (gv σ) (vat (vs ++ us)) i = Sum.elim (Sum.elim (gv σ) (vat us)) (vat vs) (match i with
        | .inl i => Sum.inl (Sum.inl i)
        | .inr n => if n < rs.length then Sum.inr n else Sum.inl (Sum.inr (n - rs.length)))) := fun i _ => by
    cases i with
    | inl i => exact ⟨rfl, rfl⟩
    | inr n =>
      by_cases h : n < rs.length
      · simp only [h, if_true]
        refine ⟨tmp_left h, ?_⟩
        show (vs ++ us)[n]? = vs[n]?
        rw [List.getElem?_append_left (by omega)]
      · simp only [h, if_false]
        refine ⟨tmp_right (by omega), ?_⟩
        show (vs ++ us)[n]? = us[n - rs.length]?
        rw [List.getElem?_append_right (by omega), hl]
  refine ⟨base.part _ (fun i j hi hj q => ?_) e, x.stp.trans y.stp up, fun b h => ?_, by rw [y.len, x.len], by rw [List.length_append, List.length_append, x.vl, y.vl], fun i h => y.som i (x.som i h), fun n i h => ?_⟩
  · cases i with
    | inl i => cases j with
      | inl j =>
        simp only [Sum.inl.injEq] at q
        rw [q]
      | inr m =>
        by_cases h : m < rs.length
        · simp only [h, if_true] at q
          cases q
        · simp [h] at q
    | inr n => cases j with
      | inl j =>
        by_cases h : n < rs.length
        · simp only [h, if_true] at q
          cases q
        · simp [h] at q
      | inr m =>
        by_cases h : n < rs.length <;> by_cases h' : m < rs.length <;> simp only [h, h', if_true, if_false] at q
        · simp only [Sum.inr.injEq] at q
          rw [q]
        · cases q
        · cases q
        · simp only [Sum.inl.injEq, Sum.inr.injEq] at q
          rw [show n = m by omega]
  · obtain ⟨i, ⟨c, hc⟩, hv⟩ := h
    obtain ⟨e1, e2⟩ := e i (by rw [hc]; exact fun z => nomatch z)
    rw [hc] at e1
    rw [hv] at e2
    have h : Own (Sum.elim (Sum.elim (getS ρ2) (tmp qs)) (tmp rs)) (Sum.elim (Sum.elim (gv σ) (vat us)) (vat vs)) b := ⟨_, ⟨c, e1.symm⟩, e2.symm⟩
    rcases own_sum.mp h with h | h
    · rcases y.lnk b h with h | h
      · exact up b h
      · exact back b h
    · exact x.lnk b (own_sum.mpr (.inr h))
  · by_cases hn : n < rs.length
    · rw [List.getElem?_append_left hn] at h
      obtain ⟨h1, h2⟩ := x.slot n i h
      refine ⟨?_, y.som i h2⟩
      rw [← h1]
      show (vs ++ us)[n]? = vs[n]?
      rw [List.getElem?_append_left (by omega)]
    · rw [List.getElem?_append_right (by omega)] at h
      obtain ⟨h1, h2⟩ := y.slot _ i h
      refine ⟨?_, h2⟩
      rw [← h1]
      show (vs ++ us)[n]? = us[n - rs.length]?
      rw [List.getElem?_append_right (by omega), hl]

/-! ### a thing becomes data for good -/
def upS {ι : Type} [DecidableEq ι] (s : ι → Option Sv) (i : ι) (x : Option Sv) : ι → Option Sv := fun j => if j = i then x else s j
theorem SOk.freeze {ι : Type} [DecidableEq ι] {s : ι → Option Sv} {v : ι → Option V} {i : ι} {c : Ct} (x : SOk K E s v F H) (hs : s i = some (.own c)) :
    ∃ a F', v i = some (.ref a) ∧ Ex F F' ∧ Rp K F' (.ref a) c.data ∧ (∀ b o, F' b = some o → F b = none → b = a) ∧ SOk K E (upS s i (some (.dat c.data))) v F' H := by
  obtain ⟨u, hu, a, rfl, hn, hc⟩ := x.at_ i _ hs
  obtain ⟨o, ho⟩ := hc.there
  have ex : Ex F (fun b => if b = a then H a else F b) := fun b o' e => by
    show (if b = a then H a else F b) = some o'
    by_cases h : b = a
    · rw [h, hn] at e
      cases e
    · rw [if_neg h, e]
  have r : Rp K (fun b => if b = a then H a else F b) (.ref a) c.data := hc.rp ex fun o' e => by
    show (if a = a then H a else F a) = some o'
    rw [if_pos rfl, e]
  refine ⟨a, _, hu, ex, r, fun b o' e n => ?_, fun b o' e => ?_, fun j z h => ?_, fun j k b hj hk => ?_⟩
  · by_cases h : b = a
    · exact h
    · have e : (if b = a then H a else F b) = some o' := e
      rw [if_neg h, n] at e
      cases e
  · have e : (if b = a then H a else F b) = some o' := e
    by_cases h : b = a
    · rw [if_pos h] at e
      rw [h, e]
    · rw [if_neg h] at e
      exact x.sub _ _ e
  · unfold upS at h
    by_cases hj : j = i
    · rw [if_pos hj] at h
      cases h
      exact ⟨_, by rw [hj]; exact hu, r⟩
    · rw [if_neg hj] at h
      obtain ⟨w, hw, q⟩ := x.at_ j z h
      refine ⟨w, hw, ?_⟩
      cases z with
      | dat d => exact Rp.mono ex q
      | exc k fs => exact q
      | glt ds => exact q
      | own c' =>
        obtain ⟨a', rfl, n', q'⟩ := q
        have ne : a' ≠ a := fun e => by
          subst e
          exact hj (x.inj j i a' ⟨⟨c', h⟩, hw⟩ ⟨⟨c, hs⟩, hu⟩)
        refine ⟨a', rfl, ?_, q'.keep ex fun _ e => e⟩
        show (if a' = a then H a else F a') = none
        rw [if_neg ne, n']
  · obtain ⟨⟨c1, h1⟩, h2⟩ := hj
    obtain ⟨⟨c3, h3⟩, h4⟩ := hk
    unfold upS at h1 h3
    by_cases e1 : j = i
    · rw [if_pos e1] at h1
      cases h1
    · by_cases e2 : k = i
      · rw [if_pos e2] at h3
        cases h3
      · rw [if_neg e1] at h1
        rw [if_neg e2] at h3
        exact x.inj j k b ⟨⟨c1, h1⟩, h2⟩ ⟨⟨c3, h3⟩, h4⟩
theorem tmp_cons {r : Rv} (n : Nat) : tmp (r :: rs) (n + 1) = tmp rs n := by
  unfold tmp
  rw [List.getElem?_cons_succ]
/-- the temporaries but the first one -/
theorem SOk.tail {s : Nat → Option Sv} {w : Nat → Option V} {r : Rv} {v : V} (x : SOk K E (Sum.elim s (tmp (r :: rs))) (Sum.elim w (vat (v :: vs))) F H) : SOk K E (Sum.elim s (tmp rs)) (Sum.elim w (vat vs)) F H :=
  x.part (fun i => match i with
    | .inl i => .inl i
    | .inr n => .inr (n + 1)) (fun i j _ _ e => by
      cases i <;> cases j <;> simp at e
      · rw [e]
      · rw [e]) fun i _ => by
      cases i with
      | inl i => exact ⟨rfl, rfl⟩
      | inr n => exact ⟨(tmp_cons n).symm, rfl⟩
theorem own_tail {s : Nat → Option Sv} {w : Nat → Option V} {r : Rv} {v : V} {b : Addr} (h : Own (Sum.elim s (tmp rs)) (Sum.elim w (vat vs)) b) : Own (Sum.elim s (tmp (r :: rs))) (Sum.elim w (vat (v :: vs))) b := by
  rcases own_sum.mp h with h | ⟨n, ⟨c, hc⟩, hv⟩
  · exact own_sum.mpr (.inl h)
  · exact own_sum.mpr (.inr ⟨n + 1, ⟨c, by rw [tmp_cons]; exact hc⟩, hv⟩)

theorem SOk.congr {ι : Type} {s s' : ι → Option Sv} {v v' : ι → Option V} (x : SOk K E s v F H) (h : ∀ i, s' i = s i) (hv : ∀ i, v' i = v i) : SOk K E s' v' F H :=
  x.part id (fun _ _ _ _ e => e) fun i _ => ⟨h i, hv i⟩
theorem upS_ne {ι : Type} [DecidableEq ι] {s : ι → Option Sv} {i j : ι} {x : Option Sv} (h : j ≠ i) : upS s i x j = s j := by
  unfold upS
  rw [if_neg h]
theorem upS_same {ι : Type} [DecidableEq ι] {s : ι → Option Sv} {i : ι} {x : Option Sv} : upS s i x i = x := by
  unfold upS
  rw [if_pos rfl]
theorem SOk.unglt {ι : Type} {s s' : ι → Option Sv} {v : ι → Option V} {i : ι} {ds : List PyData} (x : SOk K E s v F H) (hs : s i = some (.glt ds)) (h1 : s' i = some (.dat (.tuple ds))) (h2 : ∀ j, j ≠ i → s' j = s j) : SOk K E s' v F H := by
  classical
  refine ⟨x.sub, fun j z hz => ?_, fun a b w ⟨⟨c, a1⟩, a2⟩ ⟨⟨c', b1⟩, b2⟩ => x.inj a b w ⟨⟨c, ?_⟩, a2⟩ ⟨⟨c', ?_⟩, b2⟩⟩
  · by_cases e : j = i
    · subst e
      rw [h1] at hz
      cases hz
      obtain ⟨u, hu, q⟩ := x.at_ j _ hs
      exact ⟨u, hu, glt_rp q⟩
    · rw [h2 j e] at hz
      exact x.at_ j z hz
  · by_cases e : a = i
    · subst e
      rw [h1] at a1
      cases a1
    · rw [← h2 a e, a1]
  · by_cases e : b = i
    · subst e
      rw [h1] at b1
      cases b1
    · rw [← h2 b e, b1]
theorem frz_one {r : Rv} {v : V} {d : PyData} {ρ' : Env} (x : SOk K E (Sum.elim (getS ρ) (tmp (r :: rs))) (Sum.elim (gv σ) (vat (v :: vs))) F H) (hs : ∀ i, r = .slot i → some v = gv σ i) (h : frz ρ r = some (d, ρ')) :
    ∃ F', Ex F F' ∧ Rp K F' v d ∧ SOk K E (Sum.elim (getS ρ') (tmp rs)) (Sum.elim (gv σ) (vat vs)) F' H ∧
      (∀ b o, F' b = some o → F b = none → Own (Sum.elim (getS ρ) (tmp (r :: rs))) (Sum.elim (gv σ) (vat (v :: vs))) b) ∧
      (∀ j c, getS ρ' j = some (.own c) → getS ρ j = some (.own c)) ∧ ρ'.length = ρ.length ∧ ∀ j, (getS ρ j).isSome = true → (getS ρ' j).isSome = true := by
  cases r with
  | val s =>
    cases s with
    | dat e =>
      cases h
      obtain ⟨u, hu, q⟩ := x.at_ (.inr 0) (.dat d) rfl
      have hu : some v = some u := hu
      cases hu
      exact ⟨F, Ex.refl F, q, x.tail, fun b o h h' => (by rw [h] at h'; cases h'), fun _ _ h => h, rfl, fun _ h => h⟩
    | own c =>
      cases h
      obtain ⟨a, F', hv, ex, r, g, ok⟩ := x.freeze (i := .inr 0) (c := c) rfl
      have hv : some v = some (V.ref a) := hv
      cases hv
      refine ⟨F', ex, r, (ok.congr (s' := Sum.elim (getS ρ) (tmp (.val (.dat c.data) :: rs))) (fun i => ?_) fun _ => rfl).tail, fun b o h h' => ⟨.inr 0, ⟨c, rfl⟩, by rw [g b o h h']; rfl⟩, fun _ _ h => h, rfl, fun _ h => h⟩
      cases i with
      | inl i => exact (upS_ne (fun z => by cases z)).symm
      | inr n =>
        cases n with
        | zero => exact upS_same.symm
        | succ n =>
          rw [upS_ne (fun z => by cases z)]
          show tmp _ (n + 1) = tmp _ (n + 1)
          rw [tmp_cons, tmp_cons]
    | exc c fs => cases h
    | glt ds =>
      cases h
      obtain ⟨u, hu, q⟩ := x.at_ (.inr 0) (.glt ds) rfl
      have hu : some v = some u := hu
      cases hu
      exact ⟨F, Ex.refl F, glt_rp q, x.tail, fun b o h h' => (by rw [h] at h'; cases h'), fun _ _ h => h, rfl, fun _ h => h⟩
  | slot i =>
    have hv := hs i rfl
    have h : (((getS ρ i).bind Sv.data).map fun d => (d, ρ.set i (some (.dat d)))) = some (d, ρ') := h
    cases e : getS ρ i with
    | none =>
      rw [e] at h
      cases h
    | some s =>
      have hl := getS_lt e
      have hsome : (getS ρ i).isSome = true := by rw [e]; rfl
      rw [e] at h
      cases s with
      | exc c fs => cases h
      | glt ds =>
        cases h
        obtain ⟨u, hu, q⟩ := x.at_ (.inl i) (.glt ds) e
        have hu : gv σ i = some u := hu
        rw [← hv] at hu
        cases hu
        have same : ∀ j, j ≠ i → getS (ρ.set i (some (.dat (.tuple ds)))) j = getS ρ j := fun j hj => by rw [getS_set hsome, if_neg hj]
        have at0 : getS (ρ.set i (some (.dat (.tuple ds)))) i = some (.dat (.tuple ds)) := by rw [getS_set hsome, if_pos rfl]
        refine ⟨F, Ex.refl F, glt_rp q, x.tail.unglt (i := .inl i) (ds := ds) e at0 (fun j hj => ?_), fun b o h h' => (by rw [h] at h'; cases h'), fun j c h => ?_, List.length_set, fun j h => ?_⟩
        · cases j with
          | inl j => exact same j fun z => hj (by rw [z])
          | inr n => rfl
        · by_cases hj : j = i
          · subst hj
            rw [at0] at h
            cases h
          · rwa [same j hj] at h
        · by_cases hj : j = i
          · subst hj
            rw [at0]
            rfl
          · rw [same j hj]
            exact h
      | dat d' =>
        cases h
        obtain ⟨u, hu, q⟩ := x.at_ (.inl i) (.dat d) e
        have hu : gv σ i = some u := hu
        rw [← hv] at hu
        cases hu
        have same : ∀ j, getS (ρ.set i (some (.dat d))) j = getS ρ j := fun j => by
          rw [getS_set hsome]
          by_cases hj : j = i
          · rw [if_pos hj, hj, e]
          · rw [if_neg hj]
        refine ⟨F, Ex.refl F, q, x.tail.congr (fun j => ?_) fun _ => rfl, fun b o h h' => (by rw [h] at h'; cases h'), fun j c h => (by rw [same] at h; exact h), List.length_set, fun j h => (by rw [same]; exact h)⟩
        cases j with
        | inl j => exact same j
        | inr n => rfl
      | own c =>
        cases h
        obtain ⟨a, F', hv', ex, r, g, ok⟩ := x.freeze (i := Sum.inl i) (c := c) (show Sum.elim (getS ρ) (tmp (Rv.slot i :: rs)) (Sum.inl i) = some (Sv.own c) from e)
        have hv' : gv σ i = some (V.ref a) := hv'
        rw [← hv] at hv'
        cases hv'
        have eq : ∀ j, getS (ρ.set i (some (.dat c.data))) j = if j = i then some (.dat c.data) else getS ρ j := fun j => getS_set hsome
        have ok2 : SOk K E (Sum.elim (getS (ρ.set i (some (.dat c.data)))) (tmp (.slot i :: rs))) (Sum.elim (gv σ) (vat (.ref a :: vs))) F' H := ok.congr (fun j => by
          cases j with
          | inl j =>
            show getS _ j = _
            rw [eq]
            by_cases hj : j = i
            · subst hj
              rw [if_pos rfl, upS_same]
            · rw [if_neg hj, upS_ne (fun z => hj (Sum.inl.inj z))]
              rfl
          | inr n => exact (upS_ne (fun z => by cases z)).symm) fun _ => rfl
        refine ⟨F', ex, r, ok2.tail, fun b o h h' => ⟨.inl i, ⟨c, e⟩, by rw [g b o h h']; exact hv.symm⟩, fun j c' h => ?_, List.length_set, fun j h => ?_⟩
        · rw [eq] at h
          by_cases hj : j = i
          · rw [if_pos hj] at h
            cases h
          · rw [if_neg hj] at h
            exact h
        · rw [eq]
          by_cases hj : j = i
          · rw [if_pos hj]
            rfl
          · rw [if_neg hj]
            exact h
theorem frz_all : ∀ {rs : List Rv} {vs : List V} {ρ ρ' : Env} {F : Hp} {ds : List PyData}, SOk K E (Sum.elim (getS ρ) (tmp rs)) (Sum.elim (gv σ) (vat vs)) F H → rs.length = vs.length → (∀ n i, rs[n]? = some (.slot i) → vat vs n = gv σ i) → frzAll ρ rs = some (ds, ρ') →
    ∃ F', Ex F F' ∧ RpAll K F' vs ds ∧ SOk K E (getS ρ') (gv σ) F' H ∧ (∀ b o, F' b = some o → F b = none → Own (Sum.elim (getS ρ) (tmp rs)) (Sum.elim (gv σ) (vat vs)) b) ∧
      (∀ j c, getS ρ' j = some (.own c) → getS ρ j = some (.own c)) ∧ ρ'.length = ρ.length ∧ ∀ j, (getS ρ j).isSome = true → (getS ρ' j).isSome = true
  | [], vs, ρ, ρ', F, ds, x, hl, hs, h => by
    cases h
    cases vs with
    | cons v vs => cases hl
    | nil => exact ⟨F, Ex.refl F, .nil, x.left, fun b o h h' => (by rw [h] at h'; cases h'), fun _ _ h => h, rfl, fun _ h => h⟩
  | r :: rs, [], ρ, ρ', F, ds, x, hl, hs, h => by cases hl
  | r :: rs, v :: vs, ρ, ρ', F, ds, x, hl, hs, h => by
    have h : ((frz ρ r).bind fun p => (frzAll p.2 rs).map fun q => (p.1 :: q.1, q.2)) = some (ds, ρ') := h
    cases e1 : frz ρ r with
    | none =>
      rw [e1] at h
      cases h
    | some p =>
      obtain ⟨d, ρ1⟩ := p
      rw [e1] at h
      have h : ((frzAll ρ1 rs).map fun q => (d :: q.1, q.2)) = some (ds, ρ') := h
      cases e2 : frzAll ρ1 rs with
      | none =>
        rw [e2] at h
        cases h
      | some q =>
        obtain ⟨ds', ρ2⟩ := q
        rw [e2] at h
        cases h
        obtain ⟨F1, x1, r1, ok1, g1, o1, l1, m1⟩ := frz_one x (fun i hi => hs 0 i (by rw [hi]; rfl)) e1
        obtain ⟨F2, x2, r2, ok2, g2, o2, l2, m2⟩ := frz_all ok1 (by simpa using hl) (fun n i hi => hs (n + 1) i (by simpa using hi)) e2
        refine ⟨F2, x1.trans x2, .cons (r1.mono x2) r2, ok2, fun b o hb hn => ?_, fun j c hj => o1 j c (o2 j c hj), l2.trans l1, fun j hj => m2 j (m1 j hj)⟩
        cases f1 : F1 b with
        | some o' => exact g1 b o' f1 hn
        | none =>
          rcases own_sum.mp (g2 b o hb f1) with ⟨j, ⟨c, hc⟩, hv⟩ | ⟨n, ⟨c, hc⟩, hv⟩
          · exact own_sum.mpr (.inl ⟨j, ⟨c, o1 j c hc⟩, hv⟩)
          · exact own_sum.mpr (.inr ⟨n + 1, ⟨c, by rw [tmp_cons]; exact hc⟩, hv⟩)
theorem PostL.frz {ds : List PyData} (x : PostL K E ρ σ F H ρ1 rs vs F1 H1) (h : frzAll ρ1 rs = some (ds, ρ2)) : ∃ F2, PostL K E ρ σ F H ρ2 [] [] F2 H1 ∧ Ex F1 F2 ∧ RpAll K F2 vs ds := by
  obtain ⟨F2, ex, r, ok, g, o, l, m⟩ := frz_all x.ok x.vl (fun n i hi => (x.slot n i hi).1) h
  refine ⟨F2, ⟨ok.nil, ⟨x.stp.ex.trans ex, x.stp.keep, fun b u hb hn => ?_⟩, fun b hb => ?_, l.trans x.len, rfl, fun i hi => m i (x.som i hi), fun n i h => by simp at h⟩, ex, r⟩
  · cases f1 : F1 b with
    | some w => exact x.stp.grow b w f1 hn
    | none => exact (x.lnk b (g b u hb f1)).symm
  · obtain ⟨i, ⟨c, hc⟩, hv⟩ := own_nil hb
    exact x.lnk b (own_sum.mpr (.inl ⟨i, ⟨c, o i c hc⟩, hv⟩))

/-! ### reading -/
/-- v is to be read as d: data in F, or a container whose items are in F -/
def Dv (K : PySem.W.Frag) (F H : Hp) (v : V) (d : PyData) : Prop := Rp K F v d ∨ ∃ a c, v = .ref a ∧ CtAt K F H a c ∧ c.data = d
inductive DvAll (K : PySem.W.Frag) (F H : Hp) : List V → List PyData → Prop
  | nil : DvAll K F H [] []
  | cons {v : V} {vs : List V} {d : PyData} {ds : List PyData} : Dv K F H v d → DvAll K F H vs ds → DvAll K F H (v :: vs) (d :: ds)
theorem Dv.rp {v : V} {d : PyData} (e : Ex F H) (x : Dv K F H v d) : Rp K H v d := by
  rcases x with h | ⟨a, c, rfl, h, rfl⟩
  · exact h.mono e
  · exact h.rp e fun _ h => h
theorem Dv.lstR {v : V} {ds : List PyData} (x : Dv K F H v (.list ds)) (e : Ex F H) : ∃ a xs, v = .ref a ∧ LstAt K H a xs ∧ RpAll K F xs ds := by
  rcases x with h | ⟨a, c, rfl, h, e⟩
  · cases h with
    | lst h r => exact ⟨_, _, rfl, lstAt_ex e h, r⟩
  · cases c with
    | lst es =>
      cases e
      obtain ⟨xs, h, r⟩ := h
      exact ⟨a, xs, rfl, .inl (.inl h), r⟩
    | dic t kvs => cases e
theorem Dv.lst {v : V} {ds : List PyData} (x : Dv K F H v (.list ds)) (e : Ex F H) : ∃ a xs, v = .ref a ∧ SqL K H a xs ∧ RpAll K F xs ds := by
  obtain ⟨a, xs, h1, h2, r⟩ := x.lstR e
  exact ⟨a, xs, h1, h2.sq, r⟩
theorem Dv.tup {v : V} {ds : List PyData} (x : Dv K F H v (.tuple ds)) (e : Ex F H) : ∃ a xs, v = .ref a ∧ SqT K H a xs ∧ RpAll K F xs ds := by
  rcases x with h | ⟨a, c, rfl, h, e⟩
  · cases h with
    | tup h r => exact ⟨_, _, rfl, SqT.of (e _ _ h), r⟩
    | con h c r => exact ⟨_, _, rfl, .inr h, r⟩
  · cases c <;> cases e
theorem Dv.int {v : V} {i : Int} (x : Dv K F H v (.int i)) : v = .int i := by
  rcases x with h | ⟨a, c, rfl, h, e⟩
  · cases h
    rfl
  · cases c <;> cases e
theorem Dv.bool {v : V} {b : Bool} (x : Dv K F H v (.bool b)) : v = .bl b := by
  rcases x with h | ⟨a, c, rfl, h, e⟩
  · cases h
    rfl
  · cases c <;> cases e
theorem Dv.str {v : V} {s : Str} (x : Dv K F H v (.str s)) : v = .str s := by
  rcases x with h | ⟨a, c, rfl, h, e⟩
  · cases h
    rfl
  · cases c <;> cases e
theorem Dv.none {v : V} (x : Dv K F H v .none) : v = .non := by
  rcases x with h | ⟨a, c, rfl, h, e⟩
  · cases h
    rfl
  · cases c <;> cases e
/-- one result read -/
theorem dv_one {r : Rv} {v : V} {d : PyData} {n : Nat} (x : SOk K E (Sum.elim (getS ρ) (tmp rs)) (Sum.elim (gv σ) (vat vs)) F H) (hr : rs[n]? = some r) (hv : vs[n]? = some v) (hs : ∀ i, r = .slot i → vat vs n = gv σ i) (h : r.data ρ = some d) : Dv K F H v d := by
  cases r with
  | val s =>
    obtain ⟨u, hu, q⟩ := x.at_ (.inr n) s (by show tmp rs n = _; unfold tmp; rw [hr])
    have hu : vs[n]? = some u := hu
    rw [hv] at hu
    cases hu
    cases s with
    | dat e =>
      cases h
      exact .inl q
    | own c =>
      cases h
      obtain ⟨a, rfl, _, q⟩ := q
      exact .inr ⟨a, c, rfl, q, rfl⟩
    | exc c fs => cases h
    | glt ds =>
      cases h
      exact .inl (glt_rp q)
  | slot i =>
    have h : (getS ρ i).bind Sv.data = some d := h
    cases e : getS ρ i with
    | none =>
      rw [e] at h
      cases h
    | some s =>
      rw [e] at h
      obtain ⟨u, hu, q⟩ := x.at_ (.inl i) s e
      have hu : gv σ i = some u := hu
      have hw := hs i rfl
      have hw : vs[n]? = gv σ i := hw
      rw [hv, hu] at hw
      cases hw
      cases s with
      | dat e =>
        cases h
        exact .inl q
      | own c =>
        cases h
        obtain ⟨a, rfl, _, q⟩ := q
        exact .inr ⟨a, c, rfl, q, rfl⟩
      | exc c fs => cases h
      | glt ds =>
        cases h
        exact .inl (glt_rp q)
theorem PostL.data1 {r : Rv} {v : V} {d : PyData} (x : PostL K E ρ σ F H ρ1 rs vs F1 H1) (n : Nat) (hr : rs[n]? = some r) (hv : vs[n]? = some v) (h : r.data ρ1 = some d) : Dv K F1 H1 v d :=
  dv_one x.ok hr hv (fun i hi => (x.slot n i (by rw [hr, hi])).1) h
theorem PostL.data {ds : List PyData} (x : PostL K E ρ σ F H ρ1 rs vs F1 H1) (h : dataAll ρ1 rs = some ds) : DvAll K F1 H1 vs ds := by
  have gen : ∀ (qs : List Rv) (us : List V) (ds : List PyData) (k : Nat), rs.drop k = qs → vs.drop k = us → dataAll ρ1 qs = some ds → DvAll K F1 H1 us ds := by
    intro qs
    induction qs with
    | nil =>
      intro us ds k h1 h2 h3
      cases h3
      have : us = [] := by
        rw [← h2, List.drop_eq_nil_iff, ← x.vl]
        exact List.drop_eq_nil_iff.mp h1
      subst this
      exact .nil
    | cons r qs ih =>
      intro us ds k h1 h2 h3
      have hk : rs[k]? = some r := by
        have := congrArg (fun l => l[0]?) h1
        simpa using this
      have hkl : k < rs.length := (List.getElem?_eq_some_iff.mp hk).1
      have hkv : k < vs.length := by rw [← x.vl]; exact hkl
      obtain ⟨v, hv⟩ : ∃ v, vs[k]? = some v := ⟨vs[k], List.getElem?_eq_getElem hkv⟩
      have hu : us = v :: vs.drop (k + 1) := by
        rw [← h2, List.drop_eq_getElem_cons hkv]
        rw [List.getElem?_eq_getElem hkv] at hv
        cases hv
        rfl
      have h3 : ((r.data ρ1).bind fun d => (dataAll ρ1 qs).map fun ds => d :: ds) = some ds := h3
      cases e1 : r.data ρ1 with
      | none =>
        rw [e1] at h3
        cases h3
      | some d =>
        rw [e1] at h3
        have h3 : ((dataAll ρ1 qs).map fun ds => d :: ds) = some ds := h3
        cases e2 : dataAll ρ1 qs with
        | none =>
          rw [e2] at h3
          cases h3
        | some es =>
          rw [e2] at h3
          cases h3
          rw [hu]
          refine .cons (x.data1 k hk hv e1) (ih _ _ (k + 1) ?_ rfl e2)
          rw [← List.tail_drop, h1]
          rfl
  exact gen rs vs ds 0 rfl rfl h

/-! ### a new thing -/
/-- z at w: made out of (F, H), nothing that stood has changed -/
structure NewV (K : PySem.W.Frag) (F H : Hp) (z : Sv) (w : V) (F' H' : Hp) : Prop where
  exF : Ex F F'
  exH : Ex H H'
  sub : Ex F' H'
  grow : ∀ b o, F' b = some o → F b = none → H b = none
  at_ : match z with
    | .dat d => Rp K F' w d
    | .own c => ∃ a, w = .ref a ∧ H a = none ∧ F' a = none ∧ CtAt K F' H' a c
    | .exc _ _ => False
    | .glt _ => False
theorem PostL.new {z : Sv} {w : V} (x : PostL K E ρ σ F H ρ1 rs vs F1 H1) (n : NewV K F1 H1 z w F2 H2) : PostL K E ρ σ F H ρ1 [.val z] [w] F2 H2 := by
  have st := x.st
  have back : ∀ b, H1 b = none → Own (getS ρ) (gv σ) b ∨ H b = none := fun b h => by
    cases e : H b with
    | none => exact .inr rfl
    | some o =>
      refine .inl ?_
      by_cases p : Own (getS ρ) (gv σ) b
      · exact p
      · rw [x.stp.keep b o e p] at h
        cases h
  have up : ∀ b, Own (getS ρ1) (gv σ) b → Own (getS ρ) (gv σ) b ∨ H b = none := fun b h => x.lnk b (own_sum.mpr (.inl h))
  have stp2 : Stp (Own (getS ρ1) (gv σ)) F1 H1 F2 H2 := ⟨n.exF, fun b o h _ => n.exH b o h, fun b o h h' => .inl (n.grow b o h h')⟩
  have t0 : tmp [Rv.val z] 0 = some z := rfl
  have tS : ∀ m, tmp [Rv.val z] (m + 1) = none := fun m => by rw [tmp_cons, tmp_nil]
  -- the slots stay
  have stay : ∀ i y, getS ρ1 i = some y → ∃ u, gv σ i = some u ∧ SvAt K E F2 H2 u y := fun i y hy => by
    obtain ⟨u, hu, q⟩ := st.at_ i y hy
    refine ⟨u, hu, ?_⟩
    cases y with
    | dat d => exact Rp.mono n.exF q
    | exc c fs => exact q
    | glt ds => exact q
    | own c =>
      obtain ⟨a, rfl, hn, hc⟩ := q
      obtain ⟨o, ho⟩ := hc.there
      refine ⟨a, rfl, ?_, hc.keep n.exF fun o h => n.exH _ _ h⟩
      cases f : F2 a with
      | none => rfl
      | some o' =>
        have := n.grow a o' f hn
        rw [ho] at this
        cases this
  have fresh : ∀ c a, z = .own c → w = .ref a → H1 a = none := fun c a hz hw => by
    have q := n.at_
    rw [hz] at q
    obtain ⟨a', ha, hn, _⟩ := q
    rw [hw] at ha
    cases ha
    exact hn
  refine ⟨⟨n.sub, fun i y hy => ?_, fun i j b hi hj => ?_⟩, x.stp.trans stp2 up, fun b hb => ?_, x.len, rfl, x.som, fun m i h => ?_⟩
  · cases i with
    | inl i => exact stay i y hy
    | inr m =>
      cases m with
      | zero =>
        have hy : some z = some y := hy
        cases hy
        refine ⟨w, rfl, ?_⟩
        have q := n.at_
        cases z with
        | dat d => exact q
        | own c =>
          obtain ⟨a, e, _, h1, h2⟩ := q
          exact ⟨a, e, h1, h2⟩
        | exc c fs => exact q.elim
        | glt ds => exact q.elim
      | succ m =>
        have hy : tmp [Rv.val z] (m + 1) = some y := hy
        rw [tS] at hy
        cases hy
  · have old : ∀ i, Owns (getS ρ1) (gv σ) i b → H1 b ≠ none := fun i hi e => by
      obtain ⟨_, o, ho⟩ := st.own ⟨i, hi⟩
      rw [e] at ho
      cases ho
    have nw : ∀ m, Owns (tmp [Rv.val z]) (vat [w]) m b → m = 0 ∧ H1 b = none := fun m hm => by
      obtain ⟨⟨c, hc⟩, hv⟩ := hm
      cases m with
      | zero =>
        have hc : some z = some (.own c) := hc
        have hv : some w = some (V.ref b) := hv
        cases hc
        cases hv
        exact ⟨rfl, fresh c b rfl rfl⟩
      | succ m =>
        rw [tS] at hc
        cases hc
    cases i with
    | inl i => cases j with
      | inl j => exact congrArg Sum.inl (st.inj i j b hi hj)
      | inr m => exact absurd (nw m hj).2 (old i hi)
    | inr m => cases j with
      | inl j => exact absurd (nw m hi).2 (old j hj)
      | inr m' => rw [(nw m hi).1, (nw m' hj).1]
  · rcases own_sum.mp hb with h | ⟨m, ⟨c, hc⟩, hv⟩
    · exact up b h
    · cases m with
      | zero =>
        have hc : some z = some (.own c) := hc
        have hv : some w = some (V.ref b) := hv
        cases hc
        cases hv
        exact back b (fresh c b rfl rfl)
      | succ m =>
        rw [tS] at hc
        cases hc
  · cases m with
    | zero => cases h
    | succ m => simp at h
theorem NewV.same {w : V} {d : PyData} (s : Ex F H) (h : Rp K F w d) : NewV K F H (.dat d) w F H := ⟨Ex.refl F, Ex.refl H, s, fun b o h h' => (by rw [h] at h'; cases h'), h⟩
theorem ex_upd {p : Addr} {o : HO} (h : H p = none) : Ex H (upd H p o) := fun a u e => by
  rw [upd_ne (ne_of_none e h)]
  exact e
theorem ex_upd2 {p : Addr} {o : HO} (s : Ex F H) : Ex (upd F p o) (upd H p o) := fun a u e => by
  by_cases h : a = p
  · rw [h] at e ⊢
    rw [upd_same] at e ⊢
    exact e
  · rw [upd_ne h] at e ⊢
    exact s a u e
theorem free_of (s : Ex F H) {p : Addr} (h : H p = none) : F p = none := by
  cases e : F p with
  | none => rfl
  | some o =>
    rw [s p o e] at h
    cases h
theorem NewV.lst {p : Addr} {xs : List V} {ds : List PyData} (s : Ex F H) (hp : H p = none) (r : RpAll K F xs ds) : NewV K F H (.own (.lst ds)) (.ref p) F (upd H p (.lst xs)) :=
  ⟨Ex.refl F, ex_upd hp, s.trans (ex_upd hp), fun b o h h' => (by rw [h] at h'; cases h'), p, rfl, hp, free_of s hp, xs, upd_same, r⟩
theorem NewV.tup {p : Addr} {xs : List V} {ds : List PyData} (s : Ex F H) (hp : H p = none) (r : RpAll K F xs ds) : NewV K F H (.dat (.tuple ds)) (.ref p) (upd F p (.tup xs)) (upd H p (.tup xs)) := by
  refine ⟨ex_upd (free_of s hp), ex_upd hp, ex_upd2 s, fun b o h h' => ?_, .tup upd_same (r.mono (ex_upd (free_of s hp)))⟩
  by_cases e : b = p
  · rw [e]
    exact hp
  · rw [upd_ne e, h'] at h
    cases h
end
end Mini
/-! Mini, part D: readings; constructs of one, two, three parts. -/
namespace Mini
open PySem L2

theorem pe_imp {X : Cx} {e : Expr} {t t' : TE} (h : PE X e t) (i : ∀ σ H Q, t' σ H Q → t σ H Q) : PE X e t' := ⟨fun pins s σ H Q I q => h.run pins s σ H Q I (i σ H Q q)⟩
theorem pt_imp {X : Cx} {e : Expr} {t t' : TT} (h : PT X e t) (i : ∀ σ H Q, t' σ H Q → t σ H Q) : PT X e t' := ⟨fun pins s σ H Q I q => h.run pins s σ H Q I (i σ H Q q)⟩
theorem pw_imp {X : Cx} {e : Expr} {t t' : TT} (h : PW X e t) (i : ∀ σ H Q, t' σ H Q → t σ H Q) : PW X e t' := ⟨fun wh pins s σ H Q I q => h.run wh pins s σ H Q I (i σ H Q q)⟩
theorem pa_imp {X : Cx} {e : List Expr} {t t' : TA} (h : PA X e t) (i : ∀ σ H Q, t' σ H Q → t σ H Q) : PA X e t' := ⟨fun pos pins s σ H Q I q => h.run pos pins s σ H Q I (i σ H Q q)⟩
theorem ps_imp {X : Cx} {e : Stmt} {t t' : TS} (h : PS X e t) (i : ∀ D σ H, t' D σ H → t D σ H) : PS X e t' := ⟨fun pins s σ H D I q => h.run pins s σ H D I (i D σ H q)⟩
theorem pss_imp {X : Cx} {e : List Stmt} {t t' : TS} (h : PSs X e t) (i : ∀ D σ H, t' D σ H → t D σ H) : PSs X e t' := ⟨fun pins s σ H D I q => h.run pins s σ H D I (i D σ H q)⟩

/-- how an exception lies: its class, its own dict -/
def XcAt (K : PySem.W.Frag) (ca : Nat → Addr) (F H : Hp) (c : Nat) (fs : List (Str × PyData)) (cls : Value) (d : Option Addr) : Prop :=
  cls = .ref (ca c) ∧ ((fs = [] ∧ d = none) ∨ (fs ≠ [] ∧ ∃ dd xs, d = some dd ∧ H dd = some (.xd xs) ∧ xs.map (·.1) = fs.map (·.1) ∧ RpAll K F (xs.map (·.2)) (fs.map (·.2))))

/-- the fixed things: the written part, the classes' addresses, what is held, what is wished of exceptions -/
structure Gx where
  K : PySem.W.Frag
  ca : Nat → Addr
  E : EP
  W : WX

section
variable (g : Gx)
def excOk (ρ : Env) (σ : St) (F H : Hp) (c : Nat) (fs : List (Str × PyData)) (ρ' : Env) : Prop :=
  ∀ cls d F' H', PostL g.K g.E ρ σ F H ρ' [] [] F' H' → XcAt g.K g.ca F' H' c fs cls d → g.W cls d σ H'
def wantE (ρ : Env) (σ : St) (F H : Hp) (o : Res Rv) (Q : VK) : Prop := match o with
  | .ok r ρ' => ∀ v F' H', PostL g.K g.E ρ σ F H ρ' [r] [v] F' H' → Q v H'
  | .exc c fs ρ' => excOk g ρ σ F H c fs ρ'
  | .bad => False
def wantA (ρ : Env) (σ : St) (F H : Hp) (o : Res (List Rv)) (Q : List V → Hp → Prop) : Prop := match o with
  | .ok rs ρ' => ∀ vs F' H', PostL g.K g.E ρ σ F H ρ' rs vs F' H' → Q vs H'
  | .exc c fs ρ' => excOk g ρ σ F H c fs ρ'
  | .bad => False
def wantT (ρ : Env) (σ : St) (F H : Hp) (o : Res Bool) (Q : Bool → Hp → Prop) : Prop := match o with
  | .ok b ρ' => ∀ F' H', PostL g.K g.E ρ σ F H ρ' [] [] F' H' → Q b H'
  | .exc c fs ρ' => excOk g ρ σ F H c fs ρ'
  | .bad => False
def In (ρ : Env) (σ : St) (F H : Hp) : Prop := σ.length = ρ.length ∧ SOk g.K g.E (getS ρ) (gv σ) F H
def rdE (ρ : Env) (o : Res Rv) : TE := fun σ H Q => ∃ F, In g ρ σ F H ∧ wantE g ρ σ F H o Q
def rdA (ρ : Env) (o : Res (List Rv)) : TA := fun σ H Q => ∃ F, In g ρ σ F H ∧ wantA g ρ σ F H o Q
def rdT (ρ : Env) (o : Res Bool) : TT := fun σ H Q => ∃ F, In g ρ σ F H ∧ wantT g ρ σ F H o Q
end
variable {g : Gx} {ρ ρ1 ρ2 : Env} {σ : St} {F H F1 H1 F2 H2 : Hp} {rs qs : List Rv} {vs us : List V}
theorem In.post (i : In g ρ σ F H) (x : PostL g.K g.E ρ σ F H ρ1 rs vs F1 H1) : In g ρ1 σ F1 H1 := ⟨by rw [x.len]; exact i.1, x.st⟩
/-- an exception behind a first part -/
theorem excOk.back {c : Nat} {fs : List (Str × PyData)} (h : excOk g ρ σ F H c fs ρ2) (x : PostL g.K g.E ρ σ F H ρ1 rs vs F1 H1) : excOk g ρ1 σ F1 H1 c fs ρ2 := fun cls d F' H' y z =>
  h cls d F' H' (by have := (x.seq y).drop; exact this) z
/-- one part, then an end -/
theorem rd1 {o : Res Rv} {f : Rv → Env → Res Rv} {Q : VK} {R : VK} (h : rdE g ρ (o.bind f) σ H Q)
    (k : ∀ F r ρ1 v F1 H1, In g ρ σ F H → PostL g.K g.E ρ σ F H ρ1 [r] [v] F1 H1 → wantE g ρ σ F H (f r ρ1) Q → R v H1) : rdE g ρ o σ H R := by
  obtain ⟨F, i, w⟩ := h
  refine ⟨F, i, ?_⟩
  cases o with
  | ok r ρ1 => exact fun v F1 H1 x => k F r ρ1 v F1 H1 i x w
  | exc c fs ρ1 => exact w
  | bad => exact w
theorem rd1A {o : Res (List Rv)} {f : List Rv → Env → Res Rv} {Q : VK} {R : List V → Hp → Prop} (h : rdE g ρ (o.bind f) σ H Q)
    (k : ∀ F rs ρ1 vs F1 H1, In g ρ σ F H → PostL g.K g.E ρ σ F H ρ1 rs vs F1 H1 → wantE g ρ σ F H (f rs ρ1) Q → R vs H1) : rdA g ρ o σ H R := by
  obtain ⟨F, i, w⟩ := h
  refine ⟨F, i, ?_⟩
  cases o with
  | ok r ρ1 => exact fun v F1 H1 x => k F r ρ1 v F1 H1 i x w
  | exc c fs ρ1 => exact w
  | bad => exact w
/-- a construct of one part, by its rule -/
theorem pe1 {X : Cx} {e a : Expr} {t : TE → TE} {ev : Env → Res Rv} {f : Rv → Env → Res Rv} (rule : ∀ ta, PE X a ta → PE X e (t ta)) (ha : ∀ ρ, PE X a (rdE g ρ (ev ρ)))
    (k : ∀ ρ σ H Q ta, (∀ R : VK, (∀ F r ρ1 v F1 H1, In g ρ σ F H → PostL g.K g.E ρ σ F H ρ1 [r] [v] F1 H1 → wantE g ρ σ F H (f r ρ1) Q → R v H1) → ta σ H R) → t ta σ H Q) (ρ : Env) :
    PE X e (rdE g ρ ((ev ρ).bind f)) :=
  pe_imp (rule _ (ha ρ)) fun σ H Q h => k ρ σ H Q _ fun R hk => rd1 h hk
/-- a construct of two parts that are asked one after the other -/
theorem pe2 {X : Cx} {e a b : Expr} {r : R2} {ea eb : Env → Res Rv} {f : Rv → Rv → Env → Res Rv} (rule : ∀ ta tb, PE X a ta → PE X b tb → PE X e (tOp r ta tb)) (ha : ∀ ρ, PE X a (rdE g ρ (ea ρ))) (hb : ∀ ρ, PE X b (rdE g ρ (eb ρ)))
    (k : ∀ ρ σ F H ra rb ρ2 v u F2 H2 Q, In g ρ σ F H → PostL g.K g.E ρ σ F H ρ2 [ra, rb] [v, u] F2 H2 → wantE g ρ σ F H (f ra rb ρ2) Q → r v u H2 Q) (ρ : Env) :
    PE X e (rdE g ρ ((ea ρ).bind fun ra ρ1 => (eb ρ1).bind fun rb ρ2 => f ra rb ρ2)) := by
  cases ho : ea ρ with
  | ok ra ρ1 =>
    refine pe_imp (rule _ _ (ha ρ) (hb ρ1)) fun σ H Q h => ?_
    obtain ⟨F, i, w⟩ := h
    refine ⟨F, i, ?_⟩
    rw [ho]
    refine fun v F1 H1 x => ⟨F1, i.post x, ?_⟩
    have w : wantE g ρ σ F H ((eb ρ1).bind fun rb ρ2 => f ra rb ρ2) Q := w
    cases hb' : eb ρ1 with
    | ok rb ρ2 =>
      rw [hb'] at w
      exact fun u F2 H2 y => k ρ σ F H ra rb ρ2 v u F2 H2 Q i (x.seq y) w
    | exc c fs ρ2 =>
      rw [hb'] at w
      exact excOk.back w x
    | bad =>
      rw [hb'] at w
      exact w
  | exc c fs ρ1 =>
    refine pe_imp (rule _ _ (ha ρ) (hb ρ)) fun σ H Q h => ?_
    obtain ⟨F, i, w⟩ := h
    refine ⟨F, i, ?_⟩
    rw [ho]
    exact w
  | bad =>
    refine pe_imp (rule _ _ (ha ρ) (hb ρ)) fun σ H Q h => ?_
    obtain ⟨F, i, w⟩ := h
    exact w.elim

/-! ### ends -/
/-- the value is data -/
theorem want_dat {d : PyData} {Q : VK} {v : V} (w : wantE g ρ σ F H (.ok (.val (.dat d)) ρ1) Q) (x : PostL g.K g.E ρ σ F H ρ1 rs vs F1 H1) (r : Rp g.K F1 v d) : Q v H1 := w v F1 H1 (x.new (.same x.ok.sub r))
theorem want_new {z : Sv} {Q : VK} {v : V} (w : wantE g ρ σ F H (.ok (.val z) ρ1) Q) (x : PostL g.K g.E ρ σ F H ρ1 rs vs F1 H1) (n : NewV g.K F1 H1 z v F2 H2) : Q v H2 := w v F2 H2 (x.new n)
/-- what an operation on two things asks -/
def rBin (K : PySem.W.Frag) (f : PyData → PyData → Option Sv) : R2 := fun x y H Q => ∃ F d e z, Ex F H ∧ Dv K F H x d ∧ Dv K F H y e ∧ f d e = some z ∧ ∀ w F' H', NewV K F H z w F' H' → Q w H'
def rUn (K : PySem.W.Frag) (f : PyData → Option Sv) : V → Hp → VK → Prop := fun x H Q => ∃ F d z, Ex F H ∧ Dv K F H x d ∧ f d = some z ∧ ∀ w F' H', NewV K F H z w F' H' → Q w H'
def rAny (K : PySem.W.Frag) (f : List PyData → Option Sv) : List V → Hp → VK → Prop := fun xs H Q => ∃ F ds z, Ex F H ∧ DvAll K F H xs ds ∧ f ds = some z ∧ ∀ w F' H', NewV K F H z w F' H' → Q w H'
theorem want_bin {f : PyData → PyData → Option Sv} {ra rb : Rv} {v u : V} {Q : VK} (x : PostL g.K g.E ρ σ F H ρ2 [ra, rb] [v, u] F2 H2)
    (w : wantE g ρ σ F H (svR ρ2 ((ra.data ρ2).bind fun x => (rb.data ρ2).bind fun y => f x y)) Q) : rBin g.K f v u H2 Q := by
  cases e1 : ra.data ρ2 with
  | none =>
    rw [e1] at w
    exact w.elim
  | some d =>
    cases e2 : rb.data ρ2 with
    | none =>
      rw [e1, e2] at w
      exact w.elim
    | some e =>
      rw [e1, e2] at w
      have w : wantE g ρ σ F H (svR ρ2 (f d e)) Q := w
      cases e3 : f d e with
      | none =>
        rw [e3] at w
        exact w.elim
      | some z =>
        rw [e3] at w
        exact ⟨F2, d, e, z, x.ok.sub, x.data1 0 rfl rfl e1, x.data1 1 rfl rfl e2, e3, fun v' F' H' n => want_new w x n⟩
theorem want_un {f : PyData → Option Sv} {ra : Rv} {v : V} {Q : VK} (x : PostL g.K g.E ρ σ F H ρ2 [ra] [v] F2 H2)
    (w : wantE g ρ σ F H (svR ρ2 ((ra.data ρ2).bind f)) Q) : rUn g.K f v H2 Q := by
  cases e1 : ra.data ρ2 with
  | none =>
    rw [e1] at w
    exact w.elim
  | some d =>
    rw [e1] at w
    have w : wantE g ρ σ F H (svR ρ2 (f d)) Q := w
    cases e3 : f d with
    | none =>
      rw [e3] at w
      exact w.elim
    | some z =>
      rw [e3] at w
      exact ⟨F2, d, z, x.ok.sub, x.data1 0 rfl rfl e1, e3, fun v' F' H' n => want_new w x n⟩
theorem want_any {f : List PyData → Option Sv} {Q : VK} (x : PostL g.K g.E ρ σ F H ρ2 rs vs F2 H2)
    (w : wantE g ρ σ F H (svR ρ2 ((dataAll ρ2 rs).bind f)) Q) : rAny g.K f vs H2 Q := by
  cases e1 : dataAll ρ2 rs with
  | none =>
    rw [e1] at w
    exact w.elim
  | some ds =>
    rw [e1] at w
    have w : wantE g ρ σ F H (svR ρ2 (f ds)) Q := w
    cases e3 : f ds with
    | none =>
      rw [e3] at w
      exact w.elim
    | some z =>
      rw [e3] at w
      exact ⟨F2, ds, z, x.ok.sub, x.data e1, e3, fun v' F' H' n => want_new w x n⟩
theorem boolR_sv (o : Option Bool) : boolR ρ o = svR ρ (o.map fun b => .dat (.bool b)) := by cases o <;> rfl
theorem datR_sv (o : Option PyData) : datR ρ o = svR ρ (o.map fun d => .dat d) := by cases o <;> rfl
/-! ### names and constants -/
section
variable {X : Cx} {p : Pg} {Φ : Orc}
theorem in_at (i : In g ρ σ F H) {j : Nat} {s : Sv} (h : getS ρ j = some s) : ∃ u, σ[j]? = some (some u) ∧ gv σ j = some u ∧ SvAt g.K g.E F H u s := by
  obtain ⟨u, hu, q⟩ := i.2.at_ j s h
  refine ⟨u, ?_, hu, q⟩
  unfold gv at hu
  cases e : σ[j]? with
  | none =>
    rw [e] at hu
    cases hu
  | some o =>
    rw [e] at hu
    cases o with
    | none => cases hu
    | some w =>
      cases hu
      rfl
theorem PostL.slotv {i : Nat} {u : V} (x : PostL g.K g.E ρ σ F H ρ1 [] [] F1 H1) (hs : (getS ρ1 i).isSome = true) (hu : gv σ i = some u) : PostL g.K g.E ρ σ F H ρ1 [.slot i] [u] F1 H1 := by
  have t : ∀ n, tmp [Rv.slot i] n = none := fun n => by
    cases n with
    | zero => rfl
    | succ n => rw [tmp_cons, tmp_nil]
  refine ⟨x.ok.part (fun j => match j with
      | .inl j => .inl j
      | .inr n => .inr n) (fun a b _ _ e => by cases a <;> cases b <;> simp at e <;> rw [e]) (fun j hj => ?_), x.stp, fun b hb => x.lnk b ?_, x.len, rfl, x.som, fun n k h => ?_⟩
  · cases j with
    | inl j => exact ⟨rfl, rfl⟩
    | inr n => exact absurd (t n) hj
  · rcases own_sum.mp hb with h | ⟨n, ⟨c, hc⟩, _⟩
    · exact own_sum.mpr (.inl h)
    · rw [t] at hc
      cases hc
  · cases n with
    | zero =>
      cases h
      exact ⟨hu.symm, hs⟩
    | succ n => simp at h
theorem PostL.held {s : Sv} {u : V} (x : PostL g.K g.E ρ σ F H ρ1 rs vs F1 H1) (hs : ∀ c, s ≠ .own c) (q : SvAt g.K g.E F1 H1 u s) : PostL g.K g.E ρ σ F H ρ1 [.val s] [u] F1 H1 := by
  have y := x.drop
  have t : ∀ n c, tmp [Rv.val s] n ≠ some (.own c) := fun n c e => by
    cases n with
    | zero =>
      have e : some s = some (Sv.own c) := e
      cases e
      exact hs c rfl
    | succ n =>
      rw [tmp_cons, tmp_nil] at e
      cases e
  refine ⟨⟨y.ok.sub, fun i z hz => ?_, fun i j b hi hj => ?_⟩, y.stp, fun b hb => ?_, y.len, rfl, y.som, fun n i h => ?_⟩
  · cases i with
    | inl i => exact y.st.at_ i z hz
    | inr n => cases n with
      | zero =>
        have hz : some s = some z := hz
        cases hz
        exact ⟨u, rfl, q⟩
      | succ n =>
        have hz : tmp [Rv.val s] (n + 1) = some z := hz
        rw [tmp_cons, tmp_nil] at hz
        cases hz
  · cases i with
    | inl i => cases j with
      | inl j => exact congrArg Sum.inl (y.st.inj i j b hi hj)
      | inr n =>
        obtain ⟨⟨c, hc⟩, _⟩ := hj
        exact absurd hc (t n c)
    | inr n =>
      obtain ⟨⟨c, hc⟩, _⟩ := hi
      exact absurd hc (t n c)
  · rcases own_sum.mp hb with h | ⟨n, ⟨c, hc⟩, _⟩
    · exact y.lnk b (own_sum.mpr (.inl h))
    · exact absurd hc (t n c)
  · cases n with
    | zero => cases h
    | succ n => simp at h
theorem e_var {i : Nat} {x : Str} {pos : Pos} (h : PE X (.Name x pos) (tVar i)) (ρ : Env) : PE X (.Name x pos) (rdE g ρ (evE p Φ (.var i) ρ)) := by
  refine pe_imp h fun σ H Q h => ?_
  obtain ⟨F, i', w⟩ := h
  cases e : getS ρ i with
  | none =>
    unfold evE at w
    rw [e] at w
    exact w.elim
  | some s =>
    obtain ⟨u, h1, h2, q⟩ := in_at i' e
    refine ⟨u, h1, ?_⟩
    have pr := PostL.refl i'.2
    cases s with
    | dat d =>
      unfold evE at w
      rw [e] at w
      exact want_dat w pr q
    | own c =>
      unfold evE at w
      rw [e] at w
      exact w u F H (pr.slotv (by rw [e]; rfl) h2)
    | exc c fs =>
      unfold evE at w
      rw [e] at w
      exact w u F H (pr.held (fun c z => by cases z) q)
    | glt ds =>
      unfold evE at w
      rw [e] at w
      exact w u F H (pr.held (fun c z => by cases z) q)
theorem e_lit {e : Expr} {v : V} {d : PyData} (h : PE X e (tC v)) (r : ∀ F, Rp g.K F v d) (ρ : Env) : PE X e (rdE g ρ (evE p Φ (.lit d) ρ)) := by
  refine pe_imp h fun σ H Q h => ?_
  obtain ⟨F, i, w⟩ := h
  exact want_dat w (PostL.refl i.2) (r F)
theorem e_glb {e : Expr} {x : Str} {v : V} {d : PyData} (h : PE X e (tC v)) (r : ∀ F, Rp g.K F v d) (ρ : Env) : PE X e (rdE g ρ (evE p Φ (.glb x d) ρ)) := by
  refine pe_imp h fun σ H Q h => ?_
  obtain ⟨F, i, w⟩ := h
  exact want_dat w (PostL.refl i.2) (r F)
/-! ### argument lists, displays -/
theorem a_nil (ρ : Env) : PA X [] (rdA g ρ (evEs p Φ [] ρ)) := by
  refine pa_imp pa_nil fun σ H Q h => ?_
  obtain ⟨F, i, w⟩ := h
  exact w [] F H (PostL.refl i.2)
theorem a_cons {e : Expr} {es : List Expr} {ie : IE} {ies : List IE} (ha : ∀ ρ, PE X e (rdE g ρ (evE p Φ ie ρ))) (hr : ∀ ρ, PA X es (rdA g ρ (evEs p Φ ies ρ))) (hs : starEach (e :: es) X.env = (false, eval e X.env) :: starEach es X.env) (ρ : Env) :
    PA X (e :: es) (rdA g ρ (evEs p Φ (ie :: ies) ρ)) := by
  cases ho : evE p Φ ie ρ with
  | ok r ρ1 =>
    refine pa_imp (pa_cons (ha ρ) (hr ρ1) hs) fun σ H Q h => ?_
    obtain ⟨F, i, w⟩ := h
    refine ⟨F, i, ?_⟩
    unfold evEs at w
    rw [ho] at w ⊢
    refine fun v F1 H1 x => ⟨F1, i.post x, ?_⟩
    have w : wantA g ρ σ F H ((evEs p Φ ies ρ1).bind fun rs ρ => .ok (r :: rs) ρ) Q := w
    cases hb : evEs p Φ ies ρ1 with
    | ok rs ρ2 =>
      rw [hb] at w
      exact fun vs F2 H2 y => w (v :: vs) F2 H2 (x.seq y)
    | exc c fs ρ2 =>
      rw [hb] at w
      exact excOk.back w x
    | bad =>
      rw [hb] at w
      exact w
  | exc c fs ρ1 =>
    refine pa_imp (pa_cons (ha ρ) (hr ρ) hs) fun σ H Q h => ?_
    obtain ⟨F, i, w⟩ := h
    refine ⟨F, i, ?_⟩
    unfold evEs at w
    rw [ho] at w ⊢
    exact w
  | bad =>
    refine pa_imp (pa_cons (ha ρ) (hr ρ) hs) fun σ H Q h => ?_
    obtain ⟨F, i, w⟩ := h
    unfold evEs at w
    rw [ho] at w
    exact w.elim
theorem fit_line {n : Nat} (h : fitN n = true) : n ≤ sizeLine := Nat.le_trans (of_decide_eq_true h) (by decide)
theorem fit_lt {n : Nat} (h : fitN n = true) : n < sizeLine := Nat.lt_of_le_of_lt (of_decide_eq_true h) (by decide)
theorem e_tup {es : List Expr} {ies : List IE} {x1 : Nat} {pos : Pos} (ha : ∀ ρ, PA X es (rdA g ρ (evEs p Φ ies ρ))) (ρ : Env) : PE X (.Tuple es x1 pos) (rdE g ρ (evE p Φ (.tup ies) ρ)) := by
  refine pe_imp (pe_tup (ha ρ)) fun σ H Q h => ?_
  unfold evE at h
  refine rd1A h fun F rs ρ1 vs F1 H1 i x w => ?_
  cases e : frzAll ρ1 rs with
  | none =>
    rw [e] at w
    exact w.elim
  | some q =>
    obtain ⟨ds, ρ2⟩ := q
    rw [e] at w
    obtain ⟨F2, y, ex, r⟩ := x.frz e
    have w : wantE g ρ σ F H (if fitN ds.length then .ok (.val (.dat (.tuple ds))) ρ2 else .bad) Q := w
    cases hf : fitN ds.length with
    | false =>
      rw [hf] at w
      exact w.elim
    | true =>
      rw [hf] at w
      exact ⟨by rw [r.length]; exact fit_line hf, fun q hq => want_new w y (.tup y.ok.sub hq r)⟩
theorem e_lst {es : List Expr} {ies : List IE} {pos : Pos} (ha : ∀ ρ, PA X es (rdA g ρ (evEs p Φ ies ρ))) (ρ : Env) : PE X (.List es pos) (rdE g ρ (evE p Φ (.lst ies) ρ)) := by
  refine pe_imp (pe_lst (ha ρ)) fun σ H Q h => ?_
  unfold evE at h
  refine rd1A h fun F rs ρ1 vs F1 H1 i x w => ?_
  cases e : frzAll ρ1 rs with
  | none =>
    rw [e] at w
    exact w.elim
  | some q =>
    obtain ⟨ds, ρ2⟩ := q
    rw [e] at w
    obtain ⟨F2, y, ex, r⟩ := x.frz e
    have w : wantE g ρ σ F H (if fitN ds.length then .ok (.val (.own (.lst ds))) ρ2 else .bad) Q := w
    cases hf : fitN ds.length with
    | false =>
      rw [hf] at w
      exact w.elim
    | true =>
      rw [hf] at w
      exact ⟨by rw [r.length]; exact fit_line hf, fun q hq => want_new w y (.lst y.ok.sub hq r)⟩
/-! ### operators -/
theorem e_bin {a b : Expr} {ia ib : IE} {o : BOp} {op : Operator} {pos : Pos} (ho : OpR X (binaryOp op) (rBin g.K (binD o))) (ha : ∀ ρ, PE X a (rdE g ρ (evE p Φ ia ρ))) (hb : ∀ ρ, PE X b (rdE g ρ (evE p Φ ib ρ))) (ρ : Env) :
    PE X (.BinOp a op b pos) (rdE g ρ (evE p Φ (.bin o ia ib) ρ)) := by
  unfold evE
  exact pe2 (r := rBin g.K (binD o)) (fun ta tb h1 h2 => pe_op ho h1 h2) ha hb (fun ρ σ F H ra rb ρ2 v u F2 H2 Q i x w => want_bin x w) ρ
def cmpS (o : COp) (d e : PyData) : Option Sv := (cmpD o d e).map fun b => .dat (.bool b)
theorem cmp_sv {ρ : Env} {ra rb : Rv} {o : COp} : boolR ρ ((ra.data ρ).bind fun x => (rb.data ρ).bind fun y => cmpD o x y) = svR ρ ((ra.data ρ).bind fun x => (rb.data ρ).bind fun y => cmpS o x y) := by
  rw [boolR_sv]
  cases ra.data ρ with
  | none => rfl
  | some d => cases rb.data ρ with
    | none => rfl
    | some e => rfl
theorem e_cmp {a b : Expr} {ia ib : IE} {o : COp} {op : CmpOp} {pos : Pos} (ho : OpR X (compareOp op) (rBin g.K (cmpS o))) (hm : behindInMarks op b = false) (ha : ∀ ρ, PE X a (rdE g ρ (evE p Φ ia ρ))) (hb : ∀ ρ, PE X b (rdE g ρ (evE p Φ ib ρ))) (ρ : Env) :
    PE X (.Compare a [op] [b] pos) (rdE g ρ (evE p Φ (.cmp o ia ib) ρ)) := by
  unfold evE
  exact pe2 (r := rBin g.K (cmpS o)) (fun ta tb h1 h2 => pe_cmpR ho h1 h2 hm) ha hb (fun ρ σ F H ra rb ρ2 v u F2 H2 Q i x w => by
    rw [cmp_sv] at w
    exact want_bin x w) ρ
def ixS (d e : PyData) : Option Sv := (ixD d e).map fun z => .dat z
theorem ix_sv {ρ : Env} {ra rb : Rv} : datR ρ ((ra.data ρ).bind fun x => (rb.data ρ).bind fun y => ixD x y) = svR ρ ((ra.data ρ).bind fun x => (rb.data ρ).bind fun y => ixS x y) := by
  rw [datR_sv]
  cases ra.data ρ with
  | none => rfl
  | some d => cases rb.data ρ with
    | none => rfl
    | some e => rfl
theorem e_ix {a b : Expr} {ia ib : IE} {pos : Pos} (ho : IxR X (rBin g.K ixS)) (hp : PlainIx b) (ha : ∀ ρ, PE X a (rdE g ρ (evE p Φ ia ρ))) (hb : ∀ ρ, PE X b (rdE g ρ (evE p Φ ib ρ))) (ρ : Env) :
    PE X (.Subscript a b pos) (rdE g ρ (evE p Φ (.ix ia ib) ρ)) := by
  unfold evE
  exact pe2 (r := rBin g.K ixS) (fun ta tb h1 h2 => pe_ix ho h1 h2 hp) ha hb (fun ρ σ F H ra rb ρ2 v u F2 H2 Q i x w => by
    rw [ix_sv] at w
    exact want_bin x w) ρ
theorem e_neg {a : Expr} {ia : IE} {pos : Pos} (ha : ∀ ρ, PE X a (rdE g ρ (evE p Φ ia ρ))) (ρ : Env) : PE X (.UnaryOp .USub a pos) (rdE g ρ (evE p Φ (.neg ia) ρ)) := by
  unfold evE
  refine pe1 (t := tUn (rU fun i => .int (-i))) (fun ta h => pe_un un_neg h) ha (fun ρ σ H Q ta k => k _ fun F r ρ1 v F1 H1 i x w => ?_) ρ
  cases e : r.data ρ1 with
  | none =>
    rw [e] at w
    exact w.elim
  | some d =>
    rw [e] at w
    cases d with
    | int i => exact ⟨i, (x.data1 0 rfl rfl e).int, want_dat w x (.int _)⟩
    | _ => exact w.elim
/-! ### truth -/
theorem tru_of {d : PyData} {v : V} {b : Bool} (e : Ex F H) (x : Dv g.K F H v d) (h : truD d = some b) : TruV g.K v H b := by
  cases d with
  | none =>
    rw [x.none]
    cases h
    rfl
  | bool c =>
    rw [x.bool]
    cases h
    rfl
  | int i =>
    rw [x.int]
    cases h
    rfl
  | str s =>
    rw [x.str]
    have h : (if fitN s.length then some (s.length != 0) else none) = some b := h
    cases f : fitN s.length with
    | false =>
      rw [f] at h
      cases h
    | true =>
      rw [f] at h
      cases h
      refine ⟨fit_line f, ?_⟩
      by_cases z : s.length = 0
      · rw [z]
        rfl
      · rw [show (s.length != 0) = true by simpa using z]
        symm
        simpa using z
  | list xs =>
    obtain ⟨a, vs, rfl, h1, r⟩ := x.lst e
    cases h
    refine .inl ⟨vs, h1, ?_⟩
    cases r <;> rfl
  | tuple xs =>
    obtain ⟨a, vs, rfl, h1, r⟩ := x.tup e
    cases h
    refine .inr (.inl ⟨vs, h1, ?_⟩)
    cases r <;> rfl
  | dict kvs => cases h
theorem want_tru {ra : Rv} {v : V} {Q : Bool → Hp → Prop} (x : PostL g.K g.E ρ σ F H ρ2 [ra] [v] F2 H2) (w : wantT g ρ σ F H (truR ρ2 ra) Q) : ∃ k, TruV g.K v H2 k ∧ Q k H2 := by
  unfold truR at w
  cases e1 : ra.data ρ2 with
  | none =>
    rw [e1] at w
    exact w.elim
  | some d =>
    rw [e1] at w
    have w : wantT g ρ σ F H (match truD d with
      | some b => .ok b ρ2
      | none => .bad) Q := w
    cases e2 : truD d with
    | none =>
      rw [e2] at w
      exact w.elim
    | some b =>
      rw [e2] at w
      exact ⟨b, tru_of x.ok.sub (x.data1 0 rfl rfl e1) e2, w F2 H2 x.drop⟩
end
end Mini
/-! Mini, part E: tests, and, or, not, conditional expressions, chains. -/
namespace Mini
open PySem L2
variable {g : Gx} {ρ ρ1 ρ2 : Env} {σ : St} {F H F1 H1 F2 H2 : Hp} {rs qs : List Rv} {vs us : List V} {X : Cx} {p : Pg} {Φ : Orc}

def evT (p : Pg) (Φ : Orc) (e : IE) (ρ : Env) : Res Bool := (evE p Φ e ρ).bind fun r ρ => truR ρ r
theorem truR_eq {r : Rv} : truR ρ r = match (r.data ρ).bind truD with
  | some b => .ok b ρ
  | none => .bad := rfl
theorem evT_and {a b : IE} : evT p Φ (.and a b) ρ = (evT p Φ a ρ).bind fun t ρ1 => if t = true then evT p Φ b ρ1 else .ok false ρ1 := by
  unfold evT
  conv => lhs; unfold evE
  cases ha : evE p Φ a ρ with
  | ok ra ρ1 =>
    show Res.bind (match (ra.data ρ1).bind truD with
      | some true => evE p Φ b ρ1
      | some false => Res.ok ra ρ1
      | none => Res.bad) _ = Res.bind (truR ρ1 ra) _
    rw [truR_eq]
    cases ht : (ra.data ρ1).bind truD with
    | none => rfl
    | some t => cases t with
      | true => rfl
      | false =>
        show truR ρ1 ra = _
        rw [truR_eq, ht] <;> rfl
  | exc c fs ρ1 => rfl
  | bad => rfl
theorem evT_or {a b : IE} : evT p Φ (.or a b) ρ = (evT p Φ a ρ).bind fun t ρ1 => if t = true then .ok true ρ1 else evT p Φ b ρ1 := by
  unfold evT
  conv => lhs; unfold evE
  cases ha : evE p Φ a ρ with
  | ok ra ρ1 =>
    show Res.bind (match (ra.data ρ1).bind truD with
      | some true => Res.ok ra ρ1
      | some false => evE p Φ b ρ1
      | none => Res.bad) _ = Res.bind (truR ρ1 ra) _
    rw [truR_eq]
    cases ht : (ra.data ρ1).bind truD with
    | none => rfl
    | some t => cases t with
      | false => rfl
      | true =>
        show truR ρ1 ra = _
        rw [truR_eq, ht] <;> rfl
  | exc c fs ρ1 => rfl
  | bad => rfl
theorem evT_not {a : IE} : evT p Φ (.not a) ρ = (evT p Φ a ρ).bind fun t ρ1 => .ok (!t) ρ1 := by
  unfold evT
  conv => lhs; unfold evE
  cases ha : evE p Φ a ρ with
  | ok ra ρ1 =>
    show Res.bind (boolR ρ1 (((ra.data ρ1).bind truD).map fun b => !b)) _ = Res.bind (truR ρ1 ra) _
    rw [truR_eq]
    cases ht : (ra.data ρ1).bind truD with
    | none => rfl
    | some t => rfl
  | exc c fs ρ1 => rfl
  | bad => rfl
theorem evT_ife {c a b : IE} : evT p Φ (.ife c a b) ρ = (evT p Φ c ρ).bind fun t ρ1 => if t = true then evT p Φ a ρ1 else evT p Φ b ρ1 := by
  unfold evT
  conv => lhs; unfold evE
  cases ha : evE p Φ c ρ with
  | ok ra ρ1 =>
    show Res.bind (match (ra.data ρ1).bind truD with
      | some true => evE p Φ a ρ1
      | some false => evE p Φ b ρ1
      | none => Res.bad) _ = Res.bind (truR ρ1 ra) _
    rw [truR_eq]
    cases ht : (ra.data ρ1).bind truD with
    | none => rfl
    | some t => cases t <;> rfl
  | exc c fs ρ1 => rfl
  | bad => rfl

/-! ### tests -/
/-- an expression whose truth is asked of its value -/
theorem t_val {e : Expr} {ie : IE} (h : ∀ ρ, PE X e (rdE g ρ (evE p Φ ie ρ))) (hK : g.K = X.K) (he : ∀ whole, isTrue e X.env whole = (do let v ← whole; standAt e.pos; holding [v] (truthy v))) (ρ : Env) : PT X e (rdT g ρ (evT p Φ ie ρ)) := by
  refine pt_imp (pt_truth (h ρ) he) fun σ H Q q => ?_
  obtain ⟨F, i, w⟩ := q
  refine ⟨F, i, ?_⟩
  unfold evT at w
  cases ho : evE p Φ ie ρ with
  | ok r ρ1 =>
    rw [ho] at w
    refine fun v F1 H1 x => ?_
    rw [← hK]
    exact want_tru x w
  | exc c fs ρ1 =>
    rw [ho] at w
    exact w
  | bad =>
    rw [ho] at w
    exact w
theorem t_cmp {a b : Expr} {ia ib : IE} {o : COp} {op : CmpOp} {pos : Pos} (ho : OpR X (compareOp op) (rBin g.K (cmpS o))) (hm : behindInMarks op b = false) (ha : ∀ ρ, PE X a (rdE g ρ (evE p Φ ia ρ))) (hb : ∀ ρ, PE X b (rdE g ρ (evE p Φ ib ρ))) (ρ : Env) :
    PT X (.Compare a [op] [b] pos) (rdT g ρ (evT p Φ (.cmp o ia ib) ρ)) := by
  unfold evT
  conv => arg 3; arg 3; unfold evE
  cases hoa : evE p Φ ia ρ with
  | ok ra ρ1 =>
    refine pt_imp (pt_cmpR ho (ha ρ) (hb ρ1) hm) fun σ H Q q => ?_
    obtain ⟨F, i, w⟩ := q
    refine ⟨F, i, ?_⟩
    rw [hoa]
    refine fun v F1 H1 x => ⟨F1, i.post x, ?_⟩
    cases hob : evE p Φ ib ρ1 with
    | ok rb ρ2 =>
      refine fun u F2 H2 y => ?_
      have z : PostL g.K g.E ρ σ F H ρ2 [ra, rb] [v, u] F2 H2 := x.seq y
      have w : wantT g ρ σ F H ((evE p Φ ib ρ1).bind (fun rb ρ => boolR ρ ((ra.data ρ).bind fun x => (rb.data ρ).bind fun y => cmpD o x y)) |>.bind fun r ρ => truR ρ r) Q := w
      rw [hob] at w
      have w : wantT g ρ σ F H ((boolR ρ2 ((ra.data ρ2).bind fun x => (rb.data ρ2).bind fun y => cmpD o x y)).bind fun r ρ => truR ρ r) Q := w
      cases e1 : ra.data ρ2 with
      | none =>
        rw [e1] at w
        exact w.elim
      | some d =>
        cases e2 : rb.data ρ2 with
        | none =>
          rw [e1, e2] at w
          exact w.elim
        | some e =>
          rw [e1, e2] at w
          have w : wantT g ρ σ F H ((boolR ρ2 (cmpD o d e)).bind fun r ρ => truR ρ r) Q := w
          cases e3 : cmpD o d e with
          | none =>
            rw [e3] at w
            exact w.elim
          | some k =>
            rw [e3] at w
            refine ⟨F2, d, e, .dat (.bool k), z.ok.sub, z.data1 0 rfl rfl e1, z.data1 1 rfl rfl e2, by unfold cmpS; rw [e3]; rfl, fun w' F' H' n => ?_⟩
            have hr : Rp g.K F' w' (.bool k) := n.at_
            cases hr
            exact ⟨k, rfl, w F' H' (z.new n).drop⟩
    | exc c fs ρ2 =>
      have w : wantT g ρ σ F H ((evE p Φ ib ρ1).bind (fun rb ρ => boolR ρ ((ra.data ρ).bind fun x => (rb.data ρ).bind fun y => cmpD o x y)) |>.bind fun r ρ => truR ρ r) Q := w
      rw [hob] at w
      exact excOk.back w x
    | bad =>
      have w : wantT g ρ σ F H ((evE p Φ ib ρ1).bind (fun rb ρ => boolR ρ ((ra.data ρ).bind fun x => (rb.data ρ).bind fun y => cmpD o x y)) |>.bind fun r ρ => truR ρ r) Q := w
      rw [hob] at w
      exact w.elim
  | exc c fs ρ1 =>
    refine pt_imp (pt_cmpR ho (ha ρ) (hb ρ) hm) fun σ H Q q => ?_
    obtain ⟨F, i, w⟩ := q
    refine ⟨F, i, ?_⟩
    rw [hoa]
    exact w
  | bad =>
    refine pt_imp (pt_cmpR ho (ha ρ) (hb ρ) hm) fun σ H Q q => ?_
    obtain ⟨F, i, w⟩ := q
    exact w.elim
/-- a test behind a test -/
theorem t_seq {o : Res Bool} {f : Bool → Env → Res Bool} {Q R : Bool → Hp → Prop} (h : rdT g ρ (o.bind f) σ H Q)
    (k : ∀ F b ρ1 F1 H1, In g ρ σ F H → o = .ok b ρ1 → PostL g.K g.E ρ σ F H ρ1 [] [] F1 H1 → wantT g ρ σ F H (f b ρ1) Q → R b H1) : rdT g ρ o σ H R := by
  obtain ⟨F, i, w⟩ := h
  refine ⟨F, i, ?_⟩
  cases o with
  | ok r ρ1 => exact fun F1 H1 x => k F r ρ1 F1 H1 i rfl x w
  | exc c fs ρ1 => exact w
  | bad => exact w
theorem wantT.back {o : Res Bool} {Q : Bool → Hp → Prop} (w : wantT g ρ σ F H o Q) (x : PostL g.K g.E ρ σ F H ρ1 rs vs F1 H1) : wantT g ρ1 σ F1 H1 o Q := by
  cases o with
  | ok b ρ2 => exact fun F2 H2 y => w F2 H2 (by have := (x.seq y).drop; exact this)
  | exc c fs ρ2 => exact excOk.back w x
  | bad => exact w
theorem wantE.back {o : Res Rv} {Q : VK} (w : wantE g ρ σ F H o Q) (x : PostL g.K g.E ρ σ F H ρ1 [] [] F1 H1) : wantE g ρ1 σ F1 H1 o Q := by
  cases o with
  | ok b ρ2 => exact fun v F2 H2 y => w v F2 H2 (by have := x.seq y; exact this)
  | exc c fs ρ2 => exact excOk.back w x
  | bad => exact w
theorem t_not {a : Expr} {ia : IE} {pos : Pos} (ha : ∀ ρ, PT X a (rdT g ρ (evT p Φ ia ρ))) (ρ : Env) : PT X (.UnaryOp .Not a pos) (rdT g ρ (evT p Φ (.not ia) ρ)) := by
  rw [evT_not]
  refine pt_imp (pt_not (ha ρ)) fun σ H Q h => t_seq h fun F b ρ1 F1 H1 i _ x w => w F1 H1 x
theorem w_one {a : Expr} {ia : IE} {o : BoolOp} {pos : Pos} (ha : ∀ ρ, PT X a (rdT g ρ (evT p Φ ia ρ))) (ρ : Env) : PW X (.BoolOp o [a] pos) (rdT g ρ (evT p Φ ia ρ)) := by
  cases o with
  | And => exact pw_and1 (ha ρ)
  | Or => exact pw_or1 (ha ρ)
theorem w_and {a b : Expr} {rest : List Expr} {ia ib : IE} {pos : Pos} (ha : ∀ ρ, PT X a (rdT g ρ (evT p Φ ia ρ))) (hb : ∀ ρ, PW X (.BoolOp .And (b :: rest) pos) (rdT g ρ (evT p Φ ib ρ))) (ρ : Env) : PW X (.BoolOp .And (a :: b :: rest) pos) (rdT g ρ (evT p Φ (.and ia ib) ρ)) := by
  rw [evT_and]
  cases hoa : evT p Φ ia ρ with
  | ok t ρ1 =>
    refine pw_imp (pw_and (ha ρ) (hb ρ1)) fun σ H Q h => ?_
    rw [← hoa] at h
    refine t_seq h fun F b ρ1' F1 H1 i e x w => ?_
    rw [hoa] at e
    cases e
    cases t with
    | true => exact ⟨F1, i.post x, wantT.back w x⟩
    | false => exact w F1 H1 x
  | exc c fs ρ1 =>
    refine pw_imp (pw_and (ha ρ) (hb ρ)) fun σ H Q h => ?_
    rw [← hoa] at h
    refine t_seq h fun F b ρ1' F1 H1 i e x w => ?_
    rw [hoa] at e
    cases e
  | bad =>
    refine pw_imp (pw_and (ha ρ) (hb ρ)) fun σ H Q h => ?_
    obtain ⟨F, i, w⟩ := h
    exact w.elim
theorem w_or {a b : Expr} {rest : List Expr} {ia ib : IE} {pos : Pos} (ha : ∀ ρ, PT X a (rdT g ρ (evT p Φ ia ρ))) (hb : ∀ ρ, PW X (.BoolOp .Or (b :: rest) pos) (rdT g ρ (evT p Φ ib ρ))) (ρ : Env) : PW X (.BoolOp .Or (a :: b :: rest) pos) (rdT g ρ (evT p Φ (.or ia ib) ρ)) := by
  rw [evT_or]
  cases hoa : evT p Φ ia ρ with
  | ok t ρ1 =>
    refine pw_imp (pw_or (ha ρ) (hb ρ1)) fun σ H Q h => ?_
    rw [← hoa] at h
    refine t_seq h fun F b ρ1' F1 H1 i e x w => ?_
    rw [hoa] at e
    cases e
    cases t with
    | false => exact ⟨F1, i.post x, wantT.back w x⟩
    | true => exact w F1 H1 x
  | exc c fs ρ1 =>
    refine pw_imp (pw_or (ha ρ) (hb ρ)) fun σ H Q h => ?_
    rw [← hoa] at h
    refine t_seq h fun F b ρ1' F1 H1 i e x w => ?_
    rw [hoa] at e
    cases e
  | bad =>
    refine pw_imp (pw_or (ha ρ) (hb ρ)) fun σ H Q h => ?_
    obtain ⟨F, i, w⟩ := h
    exact w.elim
/-- a if t else b -/
theorem e_ife {c a b : Expr} {ic ia ib : IE} {pos : Pos} (hc : ∀ ρ, PT X c (rdT g ρ (evT p Φ ic ρ))) (ha : ∀ ρ, PE X a (rdE g ρ (evE p Φ ia ρ))) (hb : ∀ ρ, PE X b (rdE g ρ (evE p Φ ib ρ))) (ρ : Env) :
    PE X (.IfExp c a b pos) (rdE g ρ (evE p Φ (.ife ic ia ib) ρ)) := by
  have e : evE p Φ (.ife ic ia ib) ρ = (evT p Φ ic ρ).bind fun t ρ1 => if t = true then evE p Φ ia ρ1 else evE p Φ ib ρ1 := by
    unfold evT
    conv => lhs; unfold evE
    cases ha : evE p Φ ic ρ with
    | ok ra ρ1 =>
      show (match (ra.data ρ1).bind truD with
        | some true => evE p Φ ia ρ1
        | some false => evE p Φ ib ρ1
        | none => Res.bad) = Res.bind (truR ρ1 ra) _
      rw [truR_eq]
      cases ht : (ra.data ρ1).bind truD with
      | none => rfl
      | some t => cases t <;> rfl
    | exc c fs ρ1 => rfl
    | bad => rfl
  rw [e]
  cases hoa : evT p Φ ic ρ with
  | ok t ρ1 =>
    refine pe_imp (pe_ifExp (hc ρ) (ha ρ1) (hb ρ1)) fun σ H Q h => ?_
    obtain ⟨F, i, w⟩ := h
    refine ⟨F, i, ?_⟩
    rw [hoa]
    refine fun F1 H1 x => ?_
    cases t with
    | true => exact ⟨F1, i.post x, wantE.back w x⟩
    | false => exact ⟨F1, i.post x, wantE.back w x⟩
  | exc c fs ρ1 =>
    refine pe_imp (pe_ifExp (hc ρ) (ha ρ) (hb ρ)) fun σ H Q h => ?_
    obtain ⟨F, i, w⟩ := h
    refine ⟨F, i, ?_⟩
    rw [hoa]
    exact w
  | bad =>
    refine pe_imp (pe_ifExp (hc ρ) (ha ρ) (hb ρ)) fun σ H Q h => ?_
    obtain ⟨F, i, w⟩ := h
    exact w.elim
/-! ### and, or, not as values -/
theorem want_truE {ra : Rv} {v : V} {A : Bool → Res Rv} {Q : VK} (hK : g.K = X.K) (x : PostL g.K g.E ρ σ F H ρ2 [ra] [v] F2 H2) (w : wantE g ρ σ F H (match (ra.data ρ2).bind truD with
      | some b => A b
      | none => .bad) Q) : ∃ k, TruV X.K v H2 k ∧ wantE g ρ σ F H (A k) Q := by
  cases e1 : ra.data ρ2 with
  | none =>
    rw [e1] at w
    exact w.elim
  | some d =>
    rw [e1] at w
    have w : wantE g ρ σ F H (match truD d with
      | some b => A b
      | none => .bad) Q := w
    cases e2 : truD d with
    | none =>
      rw [e2] at w
      exact w.elim
    | some b =>
      rw [e2] at w
      exact ⟨b, by rw [← hK]; exact tru_of x.ok.sub (x.data1 0 rfl rfl e1) e2, w⟩
theorem e_one {a : Expr} {ia : IE} {o : BoolOp} {pos : Pos} (ha : ∀ ρ, PE X a (rdE g ρ (evE p Φ ia ρ))) (ρ : Env) : PE X (.BoolOp o [a] pos) (rdE g ρ (evE p Φ ia ρ)) := pe_one (ha ρ)
theorem e_and {a b : Expr} {rest : List Expr} {ia ib : IE} {pos : Pos} (hK : g.K = X.K) (ha : ∀ ρ, PE X a (rdE g ρ (evE p Φ ia ρ))) (hb : ∀ ρ, PE X (.BoolOp .And (b :: rest) pos) (rdE g ρ (evE p Φ ib ρ))) (ρ : Env) : PE X (.BoolOp .And (a :: b :: rest) pos) (rdE g ρ (evE p Φ (.and ia ib) ρ)) := by
  unfold evE
  cases hoa : evE p Φ ia ρ with
  | ok ra ρ1 =>
    refine pe_imp (pe_andT (ha ρ) (hb ρ1)) fun σ H Q h => ?_
    obtain ⟨F, i, w⟩ := h
    refine ⟨F, i, ?_⟩
    rw [hoa]
    refine fun v F1 H1 x => ?_
    have w : wantE g ρ σ F H (match (ra.data ρ1).bind truD with
      | some b => if b = true then evE p Φ ib ρ1 else .ok ra ρ1
      | none => .bad) Q := by
      have w : wantE g ρ σ F H (match (ra.data ρ1).bind truD with
        | some true => evE p Φ ib ρ1
        | some false => Res.ok ra ρ1
        | none => Res.bad) Q := w
      cases e : (ra.data ρ1).bind truD with
      | none =>
        rw [e] at w
        exact w
      | some b =>
        rw [e] at w
        cases b <;> exact w
    obtain ⟨k, tk, w⟩ := want_truE hK x w
    refine ⟨k, tk, ?_⟩
    cases k with
    | true => exact ⟨F1, i.post x, wantE.back w x.drop⟩
    | false => exact w v F1 H1 x
  | exc c fs ρ1 =>
    refine pe_imp (pe_andT (ha ρ) (hb ρ)) fun σ H Q h => ?_
    obtain ⟨F, i, w⟩ := h
    refine ⟨F, i, ?_⟩
    rw [hoa]
    exact w
  | bad =>
    refine pe_imp (pe_andT (ha ρ) (hb ρ)) fun σ H Q h => ?_
    obtain ⟨F, i, w⟩ := h
    exact w.elim
theorem e_or {a b : Expr} {rest : List Expr} {ia ib : IE} {pos : Pos} (hK : g.K = X.K) (ha : ∀ ρ, PE X a (rdE g ρ (evE p Φ ia ρ))) (hb : ∀ ρ, PE X (.BoolOp .Or (b :: rest) pos) (rdE g ρ (evE p Φ ib ρ))) (ρ : Env) : PE X (.BoolOp .Or (a :: b :: rest) pos) (rdE g ρ (evE p Φ (.or ia ib) ρ)) := by
  unfold evE
  cases hoa : evE p Φ ia ρ with
  | ok ra ρ1 =>
    refine pe_imp (pe_orT (ha ρ) (hb ρ1)) fun σ H Q h => ?_
    obtain ⟨F, i, w⟩ := h
    refine ⟨F, i, ?_⟩
    rw [hoa]
    refine fun v F1 H1 x => ?_
    have w : wantE g ρ σ F H (match (ra.data ρ1).bind truD with
      | some b => if b = true then .ok ra ρ1 else evE p Φ ib ρ1
      | none => .bad) Q := by
      have w : wantE g ρ σ F H (match (ra.data ρ1).bind truD with
        | some true => Res.ok ra ρ1
        | some false => evE p Φ ib ρ1
        | none => Res.bad) Q := w
      cases e : (ra.data ρ1).bind truD with
      | none =>
        rw [e] at w
        exact w
      | some b =>
        rw [e] at w
        cases b <;> exact w
    obtain ⟨k, tk, w⟩ := want_truE hK x w
    refine ⟨k, tk, ?_⟩
    cases k with
    | true => exact w v F1 H1 x
    | false => exact ⟨F1, i.post x, wantE.back w x.drop⟩
  | exc c fs ρ1 =>
    refine pe_imp (pe_orT (ha ρ) (hb ρ)) fun σ H Q h => ?_
    obtain ⟨F, i, w⟩ := h
    refine ⟨F, i, ?_⟩
    rw [hoa]
    exact w
  | bad =>
    refine pe_imp (pe_orT (ha ρ) (hb ρ)) fun σ H Q h => ?_
    obtain ⟨F, i, w⟩ := h
    exact w.elim
theorem e_not {a : Expr} {ia : IE} {pos : Pos} (hK : g.K = X.K) (ha : ∀ ρ, PE X a (rdE g ρ (evE p Φ ia ρ))) (ρ : Env) : PE X (.UnaryOp .Not a pos) (rdE g ρ (evE p Φ (.not ia) ρ)) := by
  unfold evE
  refine pe1 (t := tNotT X.K) (fun ta h => pe_notT h) ha (fun ρ σ H Q ta k => k _ fun F r ρ1 v F1 H1 i x w => ?_) ρ
  have w : wantE g ρ σ F H (match (r.data ρ1).bind truD with
    | some b => .ok (.val (.dat (.bool (!b)))) ρ1
    | none => .bad) Q := by
    cases e : (r.data ρ1).bind truD with
    | none =>
      rw [e] at w
      exact w
    | some b =>
      rw [e] at w
      exact w
  obtain ⟨k, tk, w⟩ := want_truE hK x w
  exact ⟨k, tk, want_dat w x (.bl _)⟩
/-! ### is None -/
theorem non_iff {r : Rv} {v : V} {b : Bool} (x : PostL g.K g.E ρ σ F H ρ2 [r] [v] F2 H2) (h : noneR ρ2 r = some b) : decide (v = .non) = b := by
  have gen : ∀ d, r.data ρ2 = some d → decide (v = .non) = noneD d := fun d e => by
    have q := (x.data1 0 rfl rfl e).rp x.ok.sub
    cases q <;> rfl
  cases r with
  | val s =>
    cases s with
    | dat d =>
      cases h
      exact gen d rfl
    | own c =>
      cases h
      exact gen _ rfl
    | exc c fs =>
      cases h
      obtain ⟨u, hu, q⟩ := x.ok.at_ (.inr 0) (.exc c fs) rfl
      have hu : some v = some u := hu
      cases hu
      obtain ⟨a, rfl, _⟩ := q
      rfl
    | glt ds =>
      cases h
      exact gen _ rfl
  | slot i =>
    have h : (Rv.data ρ2 (.slot i)).map noneD = some b := h
    cases e : Rv.data ρ2 (.slot i) with
    | none =>
      rw [e] at h
      cases h
    | some d =>
      rw [e] at h
      cases h
      exact gen d e
theorem e_isN {a : Expr} {ia : IE} {j : Nat} {pos pos' : Pos} (ha : ∀ ρ, PE X a (rdE g ρ (evE p Φ ia ρ))) (ρ : Env) : PE X (.Compare a [.Is] [.Constant .none j pos'] pos) (rdE g ρ (evE p Φ (.isN ia) ρ)) := by
  unfold evE
  refine pe1 (t := tIsN) (fun ta h => pe_cmp (pc_isN h)) ha (fun ρ σ H Q ta k => k _ fun F r ρ1 v F1 H1 i x w => ?_) ρ
  cases e : noneR ρ1 r with
  | none =>
    rw [e] at w
    exact w.elim
  | some b =>
    rw [e] at w
    rw [non_iff x e]
    exact want_dat w x (.bl _)
theorem e_notN {a : Expr} {ia : IE} {j : Nat} {pos pos' : Pos} (ha : ∀ ρ, PE X a (rdE g ρ (evE p Φ ia ρ))) (ρ : Env) : PE X (.Compare a [.IsNot] [.Constant .none j pos'] pos) (rdE g ρ (evE p Φ (.notN ia) ρ)) := by
  unfold evE
  refine pe1 (t := tNotN) (fun ta h => pe_cmp (pc_notN h)) ha (fun ρ σ H Q ta k => k _ fun F r ρ1 v F1 H1 i x w => ?_) ρ
  cases e : noneR ρ1 r with
  | none =>
    rw [e] at w
    exact w.elim
  | some b =>
    rw [e] at w
    rw [non_iff x e]
    exact want_dat w x (.bl _)
/-- a construct that gives a truth value, as a test -/
theorem t_one {e a : Expr} {t : TE → TE} {ia : IE} {f : Rv → Env → Option Bool} (rule : ∀ ta, PE X a ta → PT X e (tB (t ta))) (ha : ∀ ρ, PE X a (rdE g ρ (evE p Φ ia ρ)))
    (k : ∀ ρ σ H Q ta, (∀ R : VK, (∀ F r ρ1 v F1 H1 b, In g ρ σ F H → PostL g.K g.E ρ σ F H ρ1 [r] [v] F1 H1 → f r ρ1 = some b → Q (.bl b) H1 → R v H1) → ta σ H R) → t ta σ H Q) (ρ : Env) :
    PT X e (rdT g ρ (((evE p Φ ia ρ).bind fun r ρ => boolR ρ (f r ρ)).bind fun r ρ => truR ρ r)) := by
  refine pt_imp (rule _ (ha ρ)) fun σ H Q h => ?_
  refine k ρ σ H _ _ fun R hk => ?_
  obtain ⟨F, i, w⟩ := h
  refine ⟨F, i, ?_⟩
  cases ho : evE p Φ ia ρ with
  | ok r ρ1 =>
    rw [ho] at w
    refine fun v F1 H1 x => ?_
    have w : wantT g ρ σ F H ((boolR ρ1 (f r ρ1)).bind fun r ρ => truR ρ r) Q := w
    cases e : f r ρ1 with
    | none =>
      rw [e] at w
      exact w.elim
    | some b =>
      rw [e] at w
      exact hk F r ρ1 v F1 H1 b i x e ⟨b, rfl, w F1 H1 x.drop⟩
  | exc c fs ρ1 =>
    rw [ho] at w
    exact w
  | bad =>
    rw [ho] at w
    exact w
theorem t_isN {a : Expr} {ia : IE} {j : Nat} {pos pos' : Pos} (ha : ∀ ρ, PE X a (rdE g ρ (evE p Φ ia ρ))) (ρ : Env) : PT X (.Compare a [.Is] [.Constant .none j pos'] pos) (rdT g ρ (evT p Φ (.isN ia) ρ)) := by
  unfold evT evE
  exact t_one (t := tIsN) (f := fun r ρ => noneR ρ r) (fun ta h => pt_cmp (pc_isN h)) ha (fun ρ σ H Q ta k => k _ fun F r ρ1 v F1 H1 b i x e q => by
    rw [non_iff x e]
    exact q) ρ
theorem t_notN {a : Expr} {ia : IE} {j : Nat} {pos pos' : Pos} (ha : ∀ ρ, PE X a (rdE g ρ (evE p Φ ia ρ))) (ρ : Env) : PT X (.Compare a [.IsNot] [.Constant .none j pos'] pos) (rdT g ρ (evT p Φ (.notN ia) ρ)) := by
  unfold evT evE
  exact t_one (t := tNotN) (f := fun r ρ => (noneR ρ r).map fun b => !b) (fun ta h => pt_cmp (pc_notN h)) ha (fun ρ σ H Q ta k => k _ fun F r ρ1 v F1 H1 b i x e q => by
    cases e' : noneR ρ1 r with
    | none =>
      rw [e'] at e
      cases e
    | some b' =>
      rw [e'] at e
      cases e
      rw [non_iff x e']
      exact q) ρ
/-! ### chains -/
def chB (p : Pg) (Φ : Orc) (o1 o2 : COp) (a b c : IE) (ρ : Env) : Res Bool := (evE p Φ a ρ).bind fun ra ρ => (evE p Φ b ρ).bind fun rb ρ =>
  match (ra.data ρ).bind fun x => (rb.data ρ).bind fun y => cmpD o1 x y with
  | some false => .ok false ρ
  | some true => (evE p Φ c ρ).bind fun rc ρ => (match (rb.data ρ).bind fun y => (rc.data ρ).bind fun z => cmpD o2 y z with
    | some k => .ok k ρ
    | none => .bad)
  | none => .bad
theorem chain_evE {o1 o2 : COp} {a b c : IE} : evE p Φ (.chain o1 o2 a b c) ρ = (chB p Φ o1 o2 a b c ρ).bind fun k ρ => .ok (.val (.dat (.bool k))) ρ := by
  unfold evE chB
  cases evE p Φ a ρ with
  | ok ra ρ1 =>
    show Res.bind (evE p Φ b ρ1) _ = Res.bind (Res.bind (evE p Φ b ρ1) _) _
    cases evE p Φ b ρ1 with
    | ok rb ρ2 =>
      show (match (ra.data ρ2).bind fun x => (rb.data ρ2).bind fun y => cmpD o1 x y with
        | some false => Res.ok (.val (.dat (.bool false))) ρ2
        | some true => (evE p Φ c ρ2).bind fun rc ρ => boolR ρ ((rb.data ρ).bind fun y => (rc.data ρ).bind fun z => cmpD o2 y z)
        | none => .bad) = Res.bind (match (ra.data ρ2).bind fun x => (rb.data ρ2).bind fun y => cmpD o1 x y with
        | some false => .ok false ρ2
        | some true => (evE p Φ c ρ2).bind fun rc ρ => (match (rb.data ρ).bind fun y => (rc.data ρ).bind fun z => cmpD o2 y z with
          | some k => .ok k ρ
          | none => .bad)
        | none => .bad) _
      cases (ra.data ρ2).bind fun x => (rb.data ρ2).bind fun y => cmpD o1 x y with
      | none => rfl
      | some k => cases k with
        | false => rfl
        | true =>
          show Res.bind (evE p Φ c ρ2) _ = Res.bind (Res.bind (evE p Φ c ρ2) _) _
          cases evE p Φ c ρ2 with
          | ok rc ρ3 =>
            show boolR ρ3 ((rb.data ρ3).bind fun y => (rc.data ρ3).bind fun z => cmpD o2 y z) = Res.bind (match (rb.data ρ3).bind fun y => (rc.data ρ3).bind fun z => cmpD o2 y z with
              | some k => .ok k ρ3
              | none => .bad) _
            cases (rb.data ρ3).bind fun y => (rc.data ρ3).bind fun z => cmpD o2 y z <;> rfl
          | exc c fs ρ3 => rfl
          | bad => rfl
    | exc c fs ρ2 => rfl
    | bad => rfl
  | exc c fs ρ1 => rfl
  | bad => rfl
theorem chain_evT {o1 o2 : COp} {a b c : IE} : evT p Φ (.chain o1 o2 a b c) ρ = chB p Φ o1 o2 a b c ρ := by
  unfold evT
  rw [chain_evE]
  cases chB p Φ o1 o2 a b c ρ <;> rfl
theorem cmp_use {ra rb : Rv} {o : COp} {k : Bool} {v u : V} {n m : Nat} {R : VK} (x : PostL g.K g.E ρ σ F H ρ2 rs vs F2 H2) (h1 : rs[n]? = some ra) (h2 : vs[n]? = some v) (h3 : rs[m]? = some rb) (h4 : vs[m]? = some u)
    (e : ((ra.data ρ2).bind fun x => (rb.data ρ2).bind fun y => cmpD o x y) = some k) (q : ∀ F' H', PostL g.K g.E ρ σ F H ρ2 rs vs F' H' → R (.bl k) H') (hs : ∀ F' H', NewV g.K F2 H2 (.dat (.bool k)) (.bl k) F' H' → PostL g.K g.E ρ σ F H ρ2 rs vs F' H') : rBin g.K (cmpS o) v u H2 R := by
  cases e1 : ra.data ρ2 with
  | none =>
    rw [e1] at e
    cases e
  | some d =>
    cases e2 : rb.data ρ2 with
    | none =>
      rw [e1, e2] at e
      cases e
    | some d' =>
      rw [e1, e2] at e
      have e : cmpD o d d' = some k := e
      refine ⟨F2, d, d', .dat (.bool k), x.ok.sub, x.data1 n h1 h2 e1, x.data1 m h3 h4 e2, by unfold cmpS; rw [e]; rfl, fun w' F' H' nv => ?_⟩
      have hr : Rp g.K F' w' (.bool k) := nv.at_
      cases hr
      exact q F' H' (hs F' H' nv)
theorem stay_bool {k : Bool} (x : PostL g.K g.E ρ σ F H ρ2 rs vs F2 H2) (n : NewV g.K F2 H2 (.dat (.bool k)) (.bl k) F1 H1) : PostL g.K g.E ρ σ F H ρ2 rs vs F1 H1 := by
  have y : PostL g.K g.E ρ2 σ F2 H2 ρ2 [] [] F1 H1 := ((PostL.refl x.st).new n).drop
  have z := x.seq y
  rw [List.append_nil, List.append_nil] at z
  exact z
theorem chain_core {a b c : Expr} {ia ib ic : IE} {o1 o2 : COp} (ha : ∀ ρ, PE X a (rdE g ρ (evE p Φ ia ρ))) (hb : ∀ ρ, PE X b (rdE g ρ (evE p Φ ib ρ))) (hc : ∀ ρ, PE X c (rdE g ρ (evE p Φ ic ρ))) (ρ : Env) :
    ∃ ta tb tc, PE X a ta ∧ PE X b tb ∧ PE X c tc ∧ ∀ (σ : St) (H : Hp) (Q : Bool → Hp → Prop) (R : VK), (∀ k H', Q k H' → R (.bl k) H') → rdT g ρ (chB p Φ o1 o2 ia ib ic ρ) σ H Q → tChain (rBin g.K (cmpS o1)) (rBin g.K (cmpS o2)) ta tb tc σ H R := by
  unfold chB
  cases hoa : evE p Φ ia ρ with
  | exc k fs ρ1 =>
    refine ⟨_, _, _, ha ρ, hb ρ, hc ρ, fun σ H Q R hR h => ?_⟩
    obtain ⟨F, i, w⟩ := h
    exact ⟨F, i, by rw [hoa]; exact w⟩
  | bad =>
    refine ⟨_, _, _, ha ρ, hb ρ, hc ρ, fun σ H Q R hR h => ?_⟩
    obtain ⟨F, i, w⟩ := h
    exact w.elim
  | ok ra ρ1 =>
    cases hob : evE p Φ ib ρ1 with
    | exc k fs ρ2 =>
      refine ⟨_, _, _, ha ρ, hb ρ1, hc ρ, fun σ H Q R hR h => ?_⟩
      obtain ⟨F, i, w⟩ := h
      refine ⟨F, i, ?_⟩
      rw [hoa]
      refine fun v F1 H1 x => ⟨F1, i.post x, ?_⟩
      have w : wantT g ρ σ F H ((evE p Φ ib ρ1).bind _) Q := w
      rw [hob] at w ⊢
      exact excOk.back w x
    | bad =>
      refine ⟨_, _, _, ha ρ, hb ρ1, hc ρ, fun σ H Q R hR h => ?_⟩
      obtain ⟨F, i, w⟩ := h
      have w : wantT g ρ σ F H ((evE p Φ ib ρ1).bind _) Q := w
      rw [hob] at w
      exact w.elim
    | ok rb ρ2 =>
      refine ⟨_, _, _, ha ρ, hb ρ1, hc ρ2, fun σ H Q R hR h => ?_⟩
      obtain ⟨F, i, w⟩ := h
      refine ⟨F, i, ?_⟩
      rw [hoa]
      refine fun v F1 H1 x => ⟨F1, i.post x, ?_⟩
      have w : wantT g ρ σ F H ((evE p Φ ib ρ1).bind _) Q := w
      rw [hob] at w ⊢
      refine fun u F2 H2 y => ?_
      have z : PostL g.K g.E ρ σ F H ρ2 [ra, rb] [v, u] F2 H2 := x.seq y
      have w : wantT g ρ σ F H (match (ra.data ρ2).bind fun x => (rb.data ρ2).bind fun y => cmpD o1 x y with
        | some false => .ok false ρ2
        | some true => (evE p Φ ic ρ2).bind fun rc ρ => (match (rb.data ρ).bind fun y => (rc.data ρ).bind fun z => cmpD o2 y z with
          | some k => .ok k ρ
          | none => .bad)
        | none => .bad) Q := w
      cases e1 : (ra.data ρ2).bind fun x => (rb.data ρ2).bind fun y => cmpD o1 x y with
      | none =>
        rw [e1] at w
        exact w.elim
      | some k =>
        rw [e1] at w
        refine cmp_use z (n := 0) (m := 1) rfl rfl rfl rfl e1 (fun F3 H3 z3 => ⟨k, rfl, ?_⟩) fun F' H' nv => stay_bool z nv
        cases k with
        | false => exact hR _ _ (w F3 H3 z3.drop)
        | true =>
          refine ⟨F3, i.post z3, ?_⟩
          cases hoc : evE p Φ ic ρ2 with
          | exc k fs ρ3 =>
            have w : wantT g ρ σ F H ((evE p Φ ic ρ2).bind _) Q := w
            rw [hoc] at w
            exact excOk.back w z3
          | bad =>
            have w : wantT g ρ σ F H ((evE p Φ ic ρ2).bind _) Q := w
            rw [hoc] at w
            exact w.elim
          | ok rc ρ3 =>
            have w : wantT g ρ σ F H ((evE p Φ ic ρ2).bind _) Q := w
            rw [hoc] at w
            refine fun w' F4 H4 y4 => ?_
            have z4 : PostL g.K g.E ρ σ F H ρ3 [ra, rb, rc] [v, u, w'] F4 H4 := z3.seq y4
            have w : wantT g ρ σ F H (match (rb.data ρ3).bind fun y => (rc.data ρ3).bind fun z => cmpD o2 y z with
              | some k => .ok k ρ3
              | none => .bad) Q := w
            cases e2 : (rb.data ρ3).bind fun y => (rc.data ρ3).bind fun z => cmpD o2 y z with
            | none =>
              rw [e2] at w
              exact w.elim
            | some k2 =>
              rw [e2] at w
              exact cmp_use z4 (n := 1) (m := 2) rfl rfl rfl rfl e2 (fun F5 H5 z5 => hR _ _ (w F5 H5 z5.drop)) fun F' H' nv => stay_bool z4 nv
theorem e_chain {a b c : Expr} {ia ib ic : IE} {o1 o2 : COp} {op1 op2 : CmpOp} {pos : Pos} (h1 : OpR X (compareOp op1) (rBin g.K (cmpS o1))) (h2 : OpR X (compareOp op2) (rBin g.K (cmpS o2))) (hm : lastMarks [op1, op2] [b, c] = false)
    (ha : ∀ ρ, PE X a (rdE g ρ (evE p Φ ia ρ))) (hb : ∀ ρ, PE X b (rdE g ρ (evE p Φ ib ρ))) (hc : ∀ ρ, PE X c (rdE g ρ (evE p Φ ic ρ))) (ρ : Env) : PE X (.Compare a [op1, op2] [b, c] pos) (rdE g ρ (evE p Φ (.chain o1 o2 ia ib ic) ρ)) := by
  obtain ⟨ta, tb, tc, qa, qb, qc, k⟩ := chain_core (o1 := o1) (o2 := o2) ha hb hc ρ
  rw [chain_evE]
  refine pe_imp (pe_chain h1 h2 qa qb qc hm) fun σ H Q h => ?_
  refine k σ H (fun b H' => Q (.bl b) H') Q (fun _ _ q => q) ?_
  obtain ⟨F, i, w⟩ := h
  refine ⟨F, i, ?_⟩
  cases e : chB p Φ o1 o2 ia ib ic ρ with
  | ok b ρ1 =>
    rw [e] at w
    exact fun F1 H1 x => want_dat w x (.bl _)
  | exc c fs ρ1 =>
    rw [e] at w
    exact w
  | bad =>
    rw [e] at w
    exact w
theorem t_chain {a b c : Expr} {ia ib ic : IE} {o1 o2 : COp} {op1 op2 : CmpOp} {pos : Pos} (h1 : OpR X (compareOp op1) (rBin g.K (cmpS o1))) (h2 : OpR X (compareOp op2) (rBin g.K (cmpS o2))) (hm : lastMarks [op1, op2] [b, c] = false)
    (ha : ∀ ρ, PE X a (rdE g ρ (evE p Φ ia ρ))) (hb : ∀ ρ, PE X b (rdE g ρ (evE p Φ ib ρ))) (hc : ∀ ρ, PE X c (rdE g ρ (evE p Φ ic ρ))) (ρ : Env) : PT X (.Compare a [op1, op2] [b, c] pos) (rdT g ρ (evT p Φ (.chain o1 o2 ia ib ic) ρ)) := by
  obtain ⟨ta, tb, tc, qa, qb, qc, k⟩ := chain_core (o1 := o1) (o2 := o2) ha hb hc ρ
  rw [chain_evT]
  exact pt_imp (pt_chain h1 h2 qa qb qc hm) fun σ H Q h => k σ H Q _ (fun b H' q => ⟨b, rfl, q⟩) h
end Mini
/-! Mini, part F: calls of the text's own defs. -/
namespace Mini
open PySem L2
variable {g : Gx} {ρ ρ1 ρ2 : Env} {σ : St} {F H F1 H1 F2 H2 : Hp} {rs qs : List Rv} {vs us : List V} {X : Cx} {p : Pg} {Φ : Orc}
variable {K : PySem.W.Frag} {E : EP}

def svat (ss : List Sv) (n : Nat) : Option Sv := ss[n]?
abbrev one (s : Sv) : Unit → Option Sv := fun _ => some s
abbrev onev (v : V) : Unit → Option V := fun _ => some v
/-- the step of handing over: nothing in the heap changes, F may grow by what was owned -/
structure Lent {ι κ : Type} (K : PySem.W.Frag) (E : EP) (s : ι → Option Sv) (v : ι → Option V) (F H : Hp) (s' : κ → Option Sv) (v' : κ → Option V) (F' : Hp) : Prop where
  ok : SOk K E s' v' F' H
  ex : Ex F F'
  grow : ∀ b o, F' b = some o → F b = none → Own s v b
  own : ∀ b, Own s' v' b → Own s v b
theorem Lent.stp {ι κ : Type} {s : ι → Option Sv} {v : ι → Option V} {s' : κ → Option Sv} {v' : κ → Option V} {F' : Hp} (x : Lent K E s v F H s' v' F') : Stp (Own s v) F H F' H :=
  ⟨x.ex, fun _ _ h _ => h, fun b o h h' => .inr (x.grow b o h h')⟩
theorem Lent.trans {ι κ μ : Type} {s : ι → Option Sv} {v : ι → Option V} {s1 : κ → Option Sv} {v1 : κ → Option V} {s2 : μ → Option Sv} {v2 : μ → Option V} (x : Lent K E s v F H s1 v1 F1) (y : Lent K E s1 v1 F1 H s2 v2 F2) : Lent K E s v F H s2 v2 F2 :=
  ⟨y.ok, x.ex.trans y.ex, fun b o h h' => by
    cases e : F1 b with
    | some u => exact x.grow b u e h'
    | none => exact x.own b (y.grow b o h e), fun b h => x.own b (y.own b h)⟩
theorem Lent.part {ι κ μ : Type} {s : ι → Option Sv} {v : ι → Option V} {s1 : κ → Option Sv} {v1 : κ → Option V} {s2 : μ → Option Sv} {v2 : μ → Option V} (x : Lent K E s v F H s1 v1 F1) (f : μ → κ) (hf : ∀ i j c c', s2 i = some (.own c) → s2 j = some (.own c') → f i = f j → i = j)
    (hs : ∀ i, s2 i ≠ none → s2 i = s1 (f i) ∧ v2 i = v1 (f i)) : Lent K E s v F H s2 v2 F1 :=
  ⟨x.ok.partO f hf hs, x.ex, x.grow, fun b ⟨i, ⟨c, hc⟩, hv⟩ => by
    obtain ⟨e1, e2⟩ := hs i (by rw [hc]; exact fun z => nomatch z)
    exact x.own b ⟨f i, ⟨c, by rw [← e1, hc]⟩, by rw [← e2, hv]⟩⟩
theorem Lent.refl {ι : Type} {s : ι → Option Sv} {v : ι → Option V} (x : SOk K E s v F H) : Lent K E s v F H s v F := ⟨x, Ex.refl F, fun b o h h' => (by rw [h] at h'; cases h'), fun _ h => h⟩
theorem Lent.freeze {ι : Type} [DecidableEq ι] {s : ι → Option Sv} {v : ι → Option V} {i : ι} {c : Ct} (x : SOk K E s v F H) (hs : s i = some (.own c)) : ∃ F', Lent K E s v F H (upS s i (some (.dat c.data))) v F' := by
  obtain ⟨a, F', hv, ex, r, gr, ok⟩ := x.freeze hs
  refine ⟨F', ok, ex, fun b o h h' => ⟨i, ⟨c, hs⟩, by rw [gr b o h h', hv]⟩, fun b ⟨j, ⟨c', hc⟩, hw⟩ => ?_⟩
  unfold upS at hc
  by_cases e : j = i
  · rw [if_pos e] at hc
    cases hc
  · rw [if_neg e] at hc
    exact ⟨j, ⟨c', hc⟩, hw⟩
/-- the frame for it -/
theorem Lent.frame {ι κ μ : Type} {s : ι → Option Sv} {v : ι → Option V} {s1 : κ → Option Sv} {v1 : κ → Option V} {s2 : μ → Option Sv} {v2 : μ → Option V} (x : SOk K E (Sum.elim s s2) (Sum.elim v v2) F H) (y : Lent K E s v F H s1 v1 F1) :
    Lent K E (Sum.elim s s2) (Sum.elim v v2) F H (Sum.elim s1 s2) (Sum.elim v1 v2) F1 :=
  ⟨x.frame y.ok y.stp fun b h => .inl (y.own b h), y.ex, fun b o h h' => own_sum.mpr (.inl (y.grow b o h h')), fun b h => by
    rcases own_sum.mp h with h | h
    · exact own_sum.mpr (.inl (y.own b h))
    · exact own_sum.mpr (.inr h)⟩
/-- one argument -/
theorem lend_one {r : Rv} {v : V} {k : Bool} {s : Sv} {l : Option Nat} (x : SOk K E (Sum.elim (getS ρ) (tmp (r :: rs))) (Sum.elim (gv σ) (vat (v :: vs))) F H) (hs : ∀ i, r = .slot i → some v = gv σ i) (h : lend1 ρ r k = some (s, ρ1, l)) :
    ∃ F', Lent K E (Sum.elim (getS ρ) (tmp (r :: rs))) (Sum.elim (gv σ) (vat (v :: vs))) F H (Sum.elim (Sum.elim (getS ρ1) (tmp rs)) (one s)) (Sum.elim (Sum.elim (gv σ) (vat vs)) (onev v)) F' ∧
      ρ1.length = ρ.length ∧ (∀ i, l = some i → gv σ i = some v ∧ getS ρ1 i = none ∧ (getS ρ i).isSome = true) ∧ (∀ i, (getS ρ i).isSome = true → (getS ρ1 i).isSome = true ∨ l = some i) ∧ ∀ i, (getS ρ1 i).isSome = true → (getS ρ i).isSome = true := by
  cases r with
  | val s' =>
    cases h
    refine ⟨F, (Lent.refl x).part (fun i => match i with
        | .inl (.inl i) => .inl i
        | .inl (.inr n) => .inr (n + 1)
        | .inr _ => .inr 0) (fun i j c c' _ _ e => ?_) (fun i _ => ?_), rfl, fun i hi => (by cases hi), fun i hi => .inl hi, fun i hi => hi⟩
    · rcases i with (i | i) | i <;> rcases j with (j | j) | j <;> simp at e <;> first | rw [e] | rfl
    · rcases i with (i | i) | i
      · exact ⟨rfl, rfl⟩
      · exact ⟨(tmp_cons i).symm, rfl⟩
      · exact ⟨rfl, rfl⟩
  | slot i =>
    have hv := hs i rfl
    have h : (match getS ρ i with
      | some (.dat d) => some (Sv.dat d, ρ, none)
      | some (.own c) => if k then some (Sv.own c, ρ.set i none, some i) else some (Sv.dat c.data, ρ.set i (some (.dat c.data)), none)
      | _ => none) = some (s, ρ1, l) := h
    cases e : getS ρ i with
    | none =>
      rw [e] at h
      cases h
    | some t =>
      rw [e] at h
      have hsome : (getS ρ i).isSome = true := by rw [e]; rfl
      have dup : ∀ {F' : Hp} {ρ' : Env} {d : PyData}, getS ρ' i = some (.dat d) → Lent K E (Sum.elim (getS ρ) (tmp (.slot i :: rs))) (Sum.elim (gv σ) (vat (v :: vs))) F H (Sum.elim (getS ρ') (tmp (.slot i :: rs))) (Sum.elim (gv σ) (vat (v :: vs))) F' →
          Lent K E (Sum.elim (getS ρ) (tmp (.slot i :: rs))) (Sum.elim (gv σ) (vat (v :: vs))) F H (Sum.elim (Sum.elim (getS ρ') (tmp rs)) (one (.dat d))) (Sum.elim (Sum.elim (gv σ) (vat vs)) (onev v)) F' := fun {F' ρ' d} hd y => by
        refine y.part (fun j => match j with
          | .inl (.inl j) => .inl j
          | .inl (.inr n) => .inr (n + 1)
          | .inr _ => .inl i) (fun j j' c c' hj hj' e => ?_) (fun j _ => ?_)
        · rcases j with (j | j) | j <;> rcases j' with (j' | j') | j' <;> simp at e <;> first | exact nomatch (show (some (Sv.dat d) : Option Sv) = some (Sv.own c') from hj') | exact nomatch (show (some (Sv.dat d) : Option Sv) = some (Sv.own c) from hj) | rw [e] | rfl
        · rcases j with (j | j) | j
          · exact ⟨rfl, rfl⟩
          · exact ⟨(tmp_cons j).symm, rfl⟩
          · exact ⟨hd.symm, hv⟩
      cases t with
      | exc c fs => cases h
      | glt ds => cases h
      | dat d =>
        cases h
        exact ⟨F, dup e (Lent.refl x), rfl, fun i hi => (by cases hi), fun i hi => .inl hi, fun i hi => hi⟩
      | own c =>
        cases k with
        | false =>
          cases h
          obtain ⟨F', y⟩ := Lent.freeze (i := Sum.inl i) (c := c) x (show Sum.elim (getS ρ) (tmp (Rv.slot i :: rs)) (Sum.inl i) = some (Sv.own c) from e)
          have eq : ∀ j, getS (ρ.set i (some (.dat c.data))) j = if j = i then some (.dat c.data) else getS ρ j := fun j => getS_set hsome
          refine ⟨F', dup (ρ' := ρ.set i (some (.dat c.data))) (d := c.data) (by rw [eq, if_pos rfl]) (y.part id (fun _ _ _ _ _ _ e => e) fun j _ => ⟨?_, rfl⟩), List.length_set, fun i hi => (by cases hi), fun j hj => .inl ?_, fun j hj => ?_⟩
          · cases j with
            | inl j =>
              show getS _ j = _
              rw [eq]
              by_cases hj : j = i
              · subst hj
                rw [if_pos rfl]
                exact upS_same.symm
              · rw [if_neg hj]
                exact (upS_ne (s := Sum.elim (getS ρ) (tmp (Rv.slot i :: rs))) (fun z => hj (Sum.inl.inj z))).symm
            | inr n => exact (upS_ne (s := Sum.elim (getS ρ) (tmp (Rv.slot i :: rs))) (i := Sum.inl i) (j := Sum.inr n) (fun z => nomatch z)).symm
          · rw [eq]
            by_cases h : j = i
            · rw [if_pos h]
              rfl
            · rw [if_neg h]
              exact hj
          · by_cases h : j = i
            · rw [h]
              exact hsome
            · rw [eq, if_neg h] at hj
              exact hj
        | true =>
          cases h
          have eq : ∀ j, getS (ρ.set i none) j = if j = i then none else getS ρ j := fun j => getS_set hsome
          refine ⟨F, (Lent.refl x).part (fun j => match j with
            | .inl (.inl j) => .inl j
            | .inl (.inr n) => .inr (n + 1)
            | .inr _ => .inl i) (fun j j' c c' hj hj' e => ?_) (fun j hj => ?_), List.length_set, fun j hj => ?_, fun j hj => ?_, fun j hj => ?_⟩
          · rcases j with (j | j) | j <;> rcases j' with (j' | j') | j' <;> simp at e
            · rw [e]
            · subst e
              have hj : getS (ρ.set j none) j = some (.own c) := hj
              rw [eq, if_pos rfl] at hj
              cases hj
            · rw [e]
            · subst e
              have hj' : getS (ρ.set i none) i = some (.own c') := hj'
              rw [eq, if_pos rfl] at hj'
              cases hj'
            · rfl
          · rcases j with (j | j) | j
            · refine ⟨?_, rfl⟩
              have hj : getS (ρ.set i none) j ≠ none := hj
              show getS (ρ.set i none) j = getS ρ j
              rw [eq] at hj ⊢
              by_cases h : j = i
              · rw [if_pos h] at hj
                exact absurd rfl hj
              · rw [if_neg h]
            · exact ⟨(tmp_cons j).symm, rfl⟩
            · exact ⟨e.symm, hv⟩
          · cases hj
            exact ⟨hv.symm, by rw [eq, if_pos rfl], hsome⟩
          · by_cases h : j = i
            · exact .inr (by rw [h])
            · refine .inl ?_
              rw [eq, if_neg h]
              exact hj
          · by_cases h : j = i
            · rw [h]
              exact hsome
            · rw [eq, if_neg h] at hj
              exact hj
theorem lend_all : ∀ {rs : List Rv} {vs : List V} {kp : List Bool} {ρ ρ2 : Env} {F : Hp} {ss : List Sv} {ls : List (Option Nat)}, SOk K E (Sum.elim (getS ρ) (tmp rs)) (Sum.elim (gv σ) (vat vs)) F H → rs.length = vs.length → (∀ n i, rs[n]? = some (.slot i) → vat vs n = gv σ i) → lend ρ rs kp = some (ss, ρ2, ls) →
    ∃ F', Lent K E (Sum.elim (getS ρ) (tmp rs)) (Sum.elim (gv σ) (vat vs)) F H (Sum.elim (svat ss) (getS ρ2)) (Sum.elim (vat vs) (gv σ)) F' ∧ ρ2.length = ρ.length ∧ ss.length = vs.length ∧ ls.length = vs.length ∧
      (∀ (j i : Nat), ls[j]? = some (some i) → vs[j]? = gv σ i ∧ getS ρ2 i = none ∧ (getS ρ i).isSome = true) ∧ (∀ (j j' i : Nat), ls[j]? = some (some i) → ls[j']? = some (some i) → j = j') ∧ (∀ i, (getS ρ i).isSome = true → (getS ρ2 i).isSome = true ∨ ∃ j : Nat, ls[j]? = some (some i)) ∧ ∀ i, (getS ρ2 i).isSome = true → (getS ρ i).isSome = true
  | [], vs, kp, ρ, ρ2, F, ss, ls, x, hl, hs, h => by
    cases h
    cases vs with
    | cons v vs => cases hl
    | nil =>
      refine ⟨F, (Lent.refl x).part (fun i => match i with
        | .inl n => .inr n
        | .inr i => .inl i) (fun i j c c' hi _ e => ?_) (fun i hi => ?_), rfl, rfl, rfl, fun j i h => (by simp at h), fun j j' i h => (by simp at h), fun i h => .inl h, fun i h => h⟩
      · rcases i with i | i <;> rcases j with j | j <;> simp at e <;> rw [e]
      · rcases i with i | i
        · exact ⟨rfl, rfl⟩
        · exact ⟨rfl, rfl⟩
  | r :: rs, [], kp, ρ, ρ2, F, ss, ls, x, hl, hs, h => by cases hl
  | r :: rs, v :: vs, kp, ρ, ρ2, F, ss, ls, x, hl, hs, h => by
    have h : (match lend1 ρ r (kp.headD false) with
      | none => none
      | some (s, ρ1, l) => match lend ρ1 rs kp.tail with
        | none => none
        | some (ss, ρ2, ls) => some (s :: ss, ρ2, l :: ls)) = some (ss, ρ2, ls) := h
    cases e1 : lend1 ρ r (kp.headD false) with
    | none =>
      rw [e1] at h
      cases h
    | some q =>
      obtain ⟨s, ρ1, l⟩ := q
      rw [e1] at h
      have h : (match lend ρ1 rs kp.tail with
        | none => none
        | some (ss, ρ2, ls) => some (s :: ss, ρ2, l :: ls)) = some (ss, ρ2, ls) := h
      cases e2 : lend ρ1 rs kp.tail with
      | none =>
        rw [e2] at h
        cases h
      | some q =>
        obtain ⟨ss', ρ2', ls'⟩ := q
        rw [e2] at h
        cases h
        obtain ⟨F1, y1, l1, a1, m1, b1⟩ := lend_one x (fun i hi => hs 0 i (by rw [hi]; rfl)) e1
        obtain ⟨F2, y2, l2, n2, k2, a2, d2, m2, b2⟩ := lend_all y1.ok.left (by simpa using hl) (fun n i hi => hs (n + 1) i (by simpa using hi)) e2
        have apart : ∀ (j i : Nat), l = some i → ls'[j]? = some (some i) → False := fun j i h1 h2 => by
          have := (a2 j i h2).2.2
          rw [(a1 i h1).2.1] at this
          cases this
        refine ⟨F2, (y1.trans (Lent.frame y1.ok y2)).part (fun i => match i with
          | .inl 0 => .inr ()
          | .inl (n + 1) => .inl (.inl n)
          | .inr i => .inl (.inr i)) (fun i j c c' _ _ e => ?_) (fun i _ => ?_), l2.trans l1, by rw [List.length_cons, List.length_cons, n2], by rw [List.length_cons, List.length_cons, k2], fun j i hj => ?_, fun j j' i hj hj' => ?_, fun i hi => ?_, fun i hi => b1 i (b2 i hi)⟩
        · rcases i with (_ | i) | i <;> rcases j with (_ | j) | j <;> simp at e <;> first | rfl | rw [e]
        · rcases i with (_ | i) | i <;> exact ⟨rfl, rfl⟩
        · cases j with
          | zero =>
            have hj : some l = some (some i) := hj
            obtain ⟨c1, c2, c3⟩ := a1 i (Option.some.inj hj)
            refine ⟨c1.symm, ?_, c3⟩
            cases q : getS ρ2 i with
            | none => rfl
            | some t =>
              have := b2 i (by rw [q]; rfl)
              rw [c2] at this
              cases this
          | succ j =>
            obtain ⟨c1, c2, c3⟩ := a2 j i (by simpa using hj)
            exact ⟨c1, c2, b1 i c3⟩
        · cases j with
          | zero =>
            have hj : some l = some (some i) := hj
            cases j' with
            | zero => rfl
            | succ j' => exact (apart j' i (Option.some.inj hj) (by simpa using hj')).elim
          | succ j =>
            cases j' with
            | zero =>
              have hj' : some l = some (some i) := hj'
              exact (apart j i (Option.some.inj hj') (by simpa using hj)).elim
            | succ j' => rw [d2 j j' i (by simpa using hj) (by simpa using hj')]
        · rcases m1 i hi with h | h
          · rcases m2 i h with h | ⟨j, h⟩
            · exact .inl h
            · exact .inr ⟨j + 1, by simpa using h⟩
          · exact .inr ⟨0, by rw [h]; rfl⟩

/-! ### behind the call -/
theorem giveBack_at : ∀ {ls : List (Option Nat)} {ps ρ ρ3 : Env}, giveBack ρ ls ps = some ρ3 → (∀ (j j' i : Nat), ls[j]? = some (some i) → ls[j']? = some (some i) → j = j') → (∀ (j i : Nat), ls[j]? = some (some i) → i < ρ.length) →
    ρ3.length = ρ.length ∧ (∀ (j i : Nat), ls[j]? = some (some i) → getS ρ3 i = getS ps j ∧ (getS ps j).isSome = true) ∧ ∀ i, (∀ j : Nat, ls[j]? ≠ some (some i)) → getS ρ3 i = getS ρ i
  | [], ps, ρ, ρ3, h, _, _ => by
    cases h
    exact ⟨rfl, fun j i h => (by simp at h), fun _ _ => rfl⟩
  | none :: ls, ps, ρ, ρ3, h, hd, hl => by
    have h : giveBack ρ ls ps.tail = some ρ3 := h
    obtain ⟨h1, h2, h3⟩ := giveBack_at h (fun j j' i a b => by simpa using hd (j + 1) (j' + 1) i (by simpa using a) (by simpa using b)) (fun j i a => hl (j + 1) i (by simpa using a))
    refine ⟨h1, fun j i a => ?_, fun i a => h3 i fun j b => a (j + 1) (by simpa using b)⟩
    cases j with
    | zero => cases a
    | succ j =>
      have := h2 j i (by simpa using a)
      have e : getS ps.tail j = getS ps (j + 1) := by
        unfold getS
        cases ps with
        | nil => simp
        | cons p ps => simp
      rwa [e] at this
  | some k :: ls, ps, ρ, ρ3, h, hd, hl => by
    have tl : ∀ j, getS ps.tail j = getS ps (j + 1) := fun j => by
      unfold getS
      cases ps with
      | nil => simp
      | cons p ps => simp
    have hk : k < ρ.length := hl 0 k rfl
    have go : ∀ s : Sv, getS ps 0 = some s → giveBack (ρ.set k (some s)) ls ps.tail = some ρ3 → ρ3.length = ρ.length ∧ (∀ (j i : Nat), (some k :: ls)[j]? = some (some i) → getS ρ3 i = getS ps j ∧ (getS ps j).isSome = true) ∧ ∀ i, (∀ j : Nat, (some k :: ls)[j]? ≠ some (some i)) → getS ρ3 i = getS ρ i := fun s hs h => by
      obtain ⟨h1, h2, h3⟩ := giveBack_at h (fun j j' i a b => by simpa using hd (j + 1) (j' + 1) i (by simpa using a) (by simpa using b)) (fun j i a => by rw [List.length_set]; exact hl (j + 1) i (by simpa using a))
      refine ⟨by rw [h1, List.length_set], fun j i a => ?_, fun i a => ?_⟩
      · cases j with
        | zero =>
          have a : some (some k) = some (some i) := a
          cases a
          refine ⟨?_, by rw [hs]; rfl⟩
          rw [h3 k fun j b => by simpa using hd 0 (j + 1) k rfl (by simpa using b), getS_set_lt hk, hs]
        | succ j =>
          have := h2 j i (by simpa using a)
          rwa [tl] at this
      · rw [h3 i fun j b => a (j + 1) (by simpa using b), getS_set_ne]
        intro e
        exact a 0 (by rw [e]; rfl)
    have h : (match ps.head? with
      | some (some (.own c)) => giveBack (ρ.set k (some (.own c))) ls ps.tail
      | some (some (.dat d)) => giveBack (ρ.set k (some (.dat d))) ls ps.tail
      | _ => none) = some ρ3 := h
    have hd0 : getS ps 0 = ps.head?.join := by
      unfold getS
      cases ps <;> rfl
    cases e : ps.head? with
    | none =>
      rw [e] at h
      cases h
    | some o =>
      rw [e] at h hd0
      cases o with
      | none => cases h
      | some s => cases s with
        | own c => exact go (.own c) hd0 h
        | dat d => exact go (.dat d) hd0 h
        | exc c fs => cases h
        | glt ds => cases h
structure PostC (K : PySem.W.Frag) (E : EP) (ss : List Sv) (vs : List V) (F H : Hp) (ps : Env) (s : Option Sv) (v : V) (F' H' : Hp) : Prop where
  ok : SOk K E (Sum.elim (getS ps) (fun _ : Unit => s)) (Sum.elim (vat vs) (onev v)) F' H'
  stp : Stp (Own (svat ss) (vat vs)) F H F' H'
  lnk : ∀ b, Own (Sum.elim (getS ps) (fun _ : Unit => s)) (Sum.elim (vat vs) (onev v)) b → Own (svat ss) (vat vs) b ∨ H b = none
/-- what a def promises -/
def spI (K : PySem.W.Frag) (ca : Nat → Addr) (E : EP) (φ : List Sv → Option FRes) : Sp := fun vs H Q Ex => ∃ F ss, ss.length = vs.length ∧ SOk K E (svat ss) (vat vs) F H ∧ match φ ss with
  | some (.ret s ps) => ∀ v F' H', PostC K E ss vs F H ps (some s) v F' H' → Q v H'
  | some (.exc c fs ps) => ∀ cls d F' H', PostC K E ss vs F H ps none .non F' H' → XcAt K ca F' H' c fs cls d → Ex cls d H'
  | none => False
def tmpO : Option Sv → List Rv
  | some s => [.val s]
  | none => []
theorem tmpO_at {s : Option Sv} : tmp (tmpO s) 0 = s := by cases s <;> rfl
theorem tmpO_succ {s : Option Sv} (n : Nat) : tmp (tmpO s) (n + 1) = none := by
  cases s with
  | none => exact tmp_nil _
  | some s =>
    show tmp [Rv.val s] (n + 1) = none
    rw [tmp_cons, tmp_nil]
theorem call_post {ss : List Sv} {ls : List (Option Nat)} {kp : List Bool} {ρ3 ps : Env} {s : Option Sv} {v : V} {F3 H3 : Hp} (x : PostL K E ρ σ F H ρ1 rs vs F1 H1) (h : lend ρ1 rs kp = some (ss, ρ2, ls)) :
    ∃ F2, ss.length = vs.length ∧ SOk K E (svat ss) (vat vs) F2 H1 ∧ ∀ {ρ3 ps : Env} {s : Option Sv} {v : V} {F3 H3 : Hp}, PostC K E ss vs F2 H1 ps s v F3 H3 → giveBack ρ2 ls ps = some ρ3 → PostL K E ρ σ F H ρ3 (tmpO s) ((tmpO s).map fun _ => v) F3 H3 := by
  obtain ⟨F2, y, l, n, k, a, d, m, bk⟩ := lend_all x.ok x.vl (fun n i hi => (x.slot n i hi).1) h
  refine ⟨F2, n, y.ok.left, fun {ρ3 ps s v F3 H3} c hg => ?_⟩
  obtain ⟨l3, g1, g2⟩ := giveBack_at hg d fun j i hj => by
    rw [l]
    have := (a j i hj).2.2
    cases e : getS ρ1 i with
    | none =>
      rw [e] at this
      cases this
    | some t => exact getS_lt e
  have big := y.ok.frame c.ok c.stp c.lnk
  have back : ∀ b, H1 b = none → Own (getS ρ) (gv σ) b ∨ H b = none := fun b h => by
    cases e : H b with
    | none => exact .inr rfl
    | some o =>
      refine .inl ?_
      by_cases p : Own (getS ρ) (gv σ) b
      · exact p
      · rw [x.stp.keep b o e p] at h
        cases h
  open Classical in
  let f : Nat ⊕ Nat → (Nat ⊕ Unit) ⊕ Nat := fun i => match i with
    | .inl i => if h : ∃ j : Nat, ls[j]? = some (some i) then .inl (.inl h.choose) else .inr i
    | .inr _ => .inl (.inr ())
  have fl : ∀ (i j : Nat), ls[j]? = some (some i) → f (.inl i) = .inl (.inl j) := fun i j hj => by
    have he : ∃ j : Nat, ls[j]? = some (some i) := ⟨j, hj⟩
    show (if h : ∃ j : Nat, ls[j]? = some (some i) then Sum.inl (Sum.inl h.choose) else Sum.inr i) = _
    rw [dif_pos he, d he.choose j i he.choose_spec hj]
  have fn : ∀ i : Nat, (∀ j : Nat, ls[j]? ≠ some (some i)) → f (.inl i) = .inr i := fun i hj => by
    show (if h : ∃ j : Nat, ls[j]? = some (some i) then Sum.inl (Sum.inl h.choose) else Sum.inr i) = _
    rw [dif_neg fun ⟨j, h⟩ => hj j h]
  have vl : ∀ i : Nat, vat ((tmpO s).map fun _ => v) i = if s.isSome = true ∧ i = 0 then some v else none := fun i => by
    cases s with
    | none => simp [vat, tmpO]
    | some s =>
      cases i with
      | zero => simp [vat, tmpO]
      | succ i => simp [vat, tmpO]
  have eq : ∀ i, Sum.elim (getS ρ3) (tmp (tmpO s)) i ≠ none → Sum.elim (getS ρ3) (tmp (tmpO s)) i = Sum.elim (Sum.elim (getS ps) (fun _ => s)) (getS ρ2) (f i) ∧ Sum.elim (gv σ) (vat ((tmpO s).map fun _ => v)) i = Sum.elim (Sum.elim (vat vs) (onev v)) (gv σ) (f i) := fun i hi => by
    cases i with
    | inl i =>
      by_cases hj : ∃ j : Nat, ls[j]? = some (some i)
      · obtain ⟨j, hj⟩ := hj
        rw [fl i j hj]
        exact ⟨(g1 j i hj).1, (a j i hj).1.symm⟩
      · have hn : ∀ j : Nat, ls[j]? ≠ some (some i) := fun j h => hj ⟨j, h⟩
        rw [fn i hn]
        exact ⟨g2 i hn, rfl⟩
    | inr n =>
      cases n with
      | zero =>
        have hi : tmp (tmpO s) 0 ≠ none := hi
        rw [tmpO_at] at hi
        refine ⟨tmpO_at, ?_⟩
        show vat ((tmpO s).map fun _ => v) 0 = some v
        rw [vl, if_pos ⟨by cases s with
          | none => exact absurd rfl hi
          | some s => rfl, rfl⟩]
      | succ n => exact absurd (tmpO_succ n) hi
  have up1 : ∀ b, Own (svat ss) (vat vs) b → Own (getS ρ) (gv σ) b ∨ H b = none := fun b hb => x.lnk b (y.own b (own_sum.mpr (.inl hb)))
  refine ⟨big.part f (fun i j hi hj e => ?_) eq, (x.stp.trans y.stp x.lnk).trans c.stp up1, fun b hb => ?_, by rw [l3, l, x.len], by rw [List.length_map], fun i hi => ?_, fun n i hn => ?_⟩
  · cases i with
    | inl i =>
      by_cases h1 : ∃ q : Nat, ls[q]? = some (some i)
      · obtain ⟨q, hq⟩ := h1
        rw [fl i q hq] at e
        cases j with
        | inl j =>
          by_cases h2 : ∃ q : Nat, ls[q]? = some (some j)
          · obtain ⟨q', hq'⟩ := h2
            rw [fl j q' hq'] at e
            simp only [Sum.inl.injEq] at e
            subst e
            rw [hq] at hq'
            cases hq'
            rfl
          · rw [fn j fun q' h => h2 ⟨q', h⟩] at e
            cases e
        | inr n =>
          have e : (Sum.inl (Sum.inl q) : (Nat ⊕ Unit) ⊕ Nat) = Sum.inl (Sum.inr ()) := e
          simp at e
      · rw [fn i fun q' h => h1 ⟨q', h⟩] at e
        cases j with
        | inl j =>
          by_cases h2 : ∃ q : Nat, ls[q]? = some (some j)
          · obtain ⟨q', hq'⟩ := h2
            rw [fl j q' hq'] at e
            cases e
          · rw [fn j fun q' h => h2 ⟨q', h⟩] at e
            cases e
            rfl
        | inr n =>
          have e : (Sum.inr i : (Nat ⊕ Unit) ⊕ Nat) = Sum.inl (Sum.inr ()) := e
          cases e
    | inr n =>
      have e0 : f (.inr n) = Sum.inl (Sum.inr ()) := rfl
      rw [e0] at e
      cases j with
      | inl j =>
        by_cases h2 : ∃ q : Nat, ls[q]? = some (some j)
        · obtain ⟨q', hq'⟩ := h2
          rw [fl j q' hq'] at e
          simp at e
        · rw [fn j fun q' h => h2 ⟨q', h⟩] at e
          cases e
      | inr n' =>
        cases n with
        | succ n => exact absurd (tmpO_succ n) hi
        | zero => cases n' with
          | succ n' => exact absurd (tmpO_succ n') hj
          | zero => rfl
  · obtain ⟨i, ⟨ct, hc⟩, hv⟩ := hb
    obtain ⟨e1, e2⟩ := eq i (by rw [hc]; exact fun z => nomatch z)
    rw [hc] at e1
    rw [hv] at e2
    have hb : Own (Sum.elim (Sum.elim (getS ps) (fun _ : Unit => s)) (getS ρ2)) (Sum.elim (Sum.elim (vat vs) (onev v)) (gv σ)) b := ⟨f i, ⟨ct, e1.symm⟩, e2.symm⟩
    rcases own_sum.mp hb with hb | hb
    · rcases c.lnk b hb with hb | hb
      · exact up1 b hb
      · exact back b hb
    · exact x.lnk b (y.own b (own_sum.mpr (.inr hb)))
  · by_cases hj : ∃ j : Nat, ls[j]? = some (some i)
    · obtain ⟨j, hj⟩ := hj
      rw [(g1 j i hj).1]
      exact (g1 j i hj).2
    · rw [g2 i fun j h => hj ⟨j, h⟩]
      rcases m i (x.som i hi) with h | h
      · exact h
      · exact absurd h hj
  · cases s with
    | none => simp [tmpO] at hn
    | some s =>
      cases n with
      | zero => cases hn
      | succ n => simp [tmpO] at hn
/-- a call of a def -/
theorem e_call {CXk : Nat} {x : Str} {f : Addr} {fd : FuncData} {ps : List Str} {pp pos : Pos} {e : Expr} {es : List Expr} {ies : List IE} {fi : Nat} (tk : Takes X g.W)
    (Fo : FnOk X.prog X.w X.K X.mg X.base (L2.CX X.prog X.w) CXk f fd ps (spI g.K g.ca g.E (Φ fi))) (hr : Room CXk X.A) (hg : Gl X x) (hm : X.mg x = some (.ref f)) (hk : PySem.W.keepIn X.K (.ref f) = true) (hb : Binds X.K fd ps [])
    (ha : ∀ ρ, PA X (e :: es) (rdA g ρ (evEs p Φ ies ρ))) (hdb : (x == ("__debug__" : Str)) = false) (he : starEach (e :: es) X.env = (false, eval e X.env) :: starEach es X.env) (hpl : (backTo pos (starEach es X.env)).any (·.1) = false) (ρ : Env) :
    PE X (.Call (.Name x pp) (e :: es) [] pos) (rdE g ρ (evE p Φ (.call fi ies) ρ)) := by
  refine pe_imp (pe_callS (E := WE g.W) Fo hr hg hm hk hb (passAt tk) (ha ρ) hdb he hpl) fun σ H Q h => ?_
  unfold evE at h
  refine rd1A h fun F rs ρ1 vs F1 H1 i x w => ?_
  unfold callF at w
  cases hl : lend ρ1 rs (p.kp fi) with
  | none =>
    rw [hl] at w
    exact w.elim
  | some q =>
    obtain ⟨ss, ρ2, ls⟩ := q
    rw [hl] at w
    obtain ⟨F2, n, ok, post⟩ := call_post (ρ3 := ρ2) (ps := ρ2) (s := none) (v := .non) (F3 := F) (H3 := H) x hl
    refine ⟨F2, ss, n, ok, ?_⟩
    have w : wantE g ρ σ F H (match Φ fi ss with
      | none => .bad
      | some (.ret s ps) => (match giveBack ρ2 ls ps with
        | some ρ2 => .ok (.val s) ρ2
        | none => .bad)
      | some (.exc c fs ps) => (match giveBack ρ2 ls ps with
        | some ρ2 => .exc c fs ρ2
        | none => .bad)) Q := w
    cases hf : Φ fi ss with
    | none =>
      rw [hf] at w
      exact w
    | some r =>
      rw [hf] at w
      cases r with
      | ret s ps =>
        have w : wantE g ρ σ F H (match giveBack ρ2 ls ps with
          | some ρ2 => .ok (.val s) ρ2
          | none => .bad) Q := w
        cases hgb : giveBack ρ2 ls ps with
        | none =>
          rw [hgb] at w
          exact w.elim
        | some ρ3 =>
          rw [hgb] at w
          exact fun v F3 H3 c => w v F3 H3 (post c hgb)
      | exc c fs ps =>
        have w : wantE g ρ σ F H (match giveBack ρ2 ls ps with
          | some ρ2 => .exc c fs ρ2
          | none => .bad) Q := w
        cases hgb : giveBack ρ2 ls ps with
        | none =>
          rw [hgb] at w
          exact w.elim
        | some ρ3 =>
          rw [hgb] at w
          exact fun cls d F3 H3 c' xc => w cls d F3 H3 (post c' hgb) xc
end Mini
/-! Mini, part G: what is walked; comprehensions. -/
namespace Mini
open PySem L2
variable {g : Gx} {ρ ρ1 ρ2 : Env} {σ : St} {F H F1 H1 F2 H2 : Hp} {rs qs : List Rv} {vs us : List V} {X : Cx} {p : Pg} {Φ : Orc}
variable {K : PySem.W.Frag} {E : EP}

mutual
theorem sameD_eq : ∀ {a b : PyData}, sameD a b = true → a = b
  | .none, b, h => by cases b <;> first | rfl | cases h
  | .bool x, b, h => by
    cases b with
    | bool y =>
      have h : (x == y) = true := h
      rw [eq_of_beq h]
    | _ => cases h
  | .int x, b, h => by
    cases b with
    | int y => rw [of_decide_eq_true (show decide (x = y) = true from h)]
    | _ => cases h
  | .str x, b, h => by
    cases b with
    | str y => rw [of_decide_eq_true (show decide (x = y) = true from h)]
    | _ => cases h
  | .list x, b, h => by
    cases b with
    | list y => rw [sameAll_eq (show sameAll x y = true from h)]
    | _ => cases h
  | .tuple x, b, h => by
    cases b with
    | tuple y => rw [sameAll_eq (show sameAll x y = true from h)]
    | _ => cases h
  | .dict x, b, h => by
    cases b with
    | dict y => rw [sameKv_eq (show sameKv x y = true from h)]
    | _ => cases h
theorem sameAll_eq : ∀ {a b : List PyData}, sameAll a b = true → a = b
  | [], [], _ => rfl
  | [], _ :: _, h => by cases h
  | _ :: _, [], h => by cases h
  | a :: r, b :: q, h => by
    obtain ⟨h1, h2⟩ := Bool.and_eq_true_iff.mp (show (sameD a b && sameAll r q) = true from h)
    rw [sameD_eq h1, sameAll_eq h2]
theorem sameKv_eq : ∀ {a b : List (PyData × PyData)}, sameKv a b = true → a = b
  | [], [], _ => rfl
  | [], _ :: _, h => by cases h
  | _ :: _, [], h => by cases h
  | (a, b) :: r, (c, d) :: q, h => by
    obtain ⟨h1, h2⟩ := Bool.and_eq_true_iff.mp (show (sameD a c && sameD b d && sameKv r q) = true from h)
    obtain ⟨h3, h4⟩ := Bool.and_eq_true_iff.mp h1
    rw [sameD_eq h3, sameD_eq h4, sameKv_eq h2]
end
mutual
theorem sameD_refl : ∀ a : PyData, sameD a a = true
  | .none => rfl
  | .bool x => by
    show (x == x) = true
    exact beq_self_eq_true x
  | .int x => by
    show decide (x = x) = true
    exact decide_eq_true rfl
  | .str x => by
    show decide (x = x) = true
    exact decide_eq_true rfl
  | .list x => sameAll_refl x
  | .tuple x => sameAll_refl x
  | .dict x => sameKv_refl x
theorem sameAll_refl : ∀ a : List PyData, sameAll a a = true
  | [] => rfl
  | a :: r => by
    show (sameD a a && sameAll r r) = true
    rw [sameD_refl a, sameAll_refl r]
    rfl
theorem sameKv_refl : ∀ a : List (PyData × PyData), sameKv a a = true
  | [] => rfl
  | (a, b) :: r => by
    show (sameD a a && sameD b b && sameKv r r) = true
    rw [sameD_refl a, sameD_refl b, sameKv_refl r]
    rfl
end

/-! ### what is walked -/
/-- J gives the items ds, one after the other, while A holds -/
structure Itm (K : PySem.W.Frag) (J : It) (ds : List PyData) (A : Hp → Hp → Prop) : Prop where
  step : ∀ F H i d, Ex F H → A F H → ds[i]? = some d → J.go i H ∧ ∀ x H', J.yld i H x H' → ∃ F', NewV K F H (.dat d) x F' H'
  stop : ∀ F H i, Ex F H → A F H → ds.length ≤ i → J.stop i H
/-- what must stand: the frozen part, or the list of a slot -/
def AGv (K : PySem.W.Frag) (F0 : Hp) (ds : List PyData) : Option V → Hp → Hp → Prop
  | none => fun F _ => Ex F0 F
  | some v => fun F H => Dv K F H v (.list ds)
def gval (σ : St) : Option Nat → Option V → Prop
  | none, v => v = none
  | some j, v => ∃ w, v = some w ∧ gv σ j = some w
def wantI (g : Gx) (ρ : Env) (σ : St) (F H : Hp) (o : Res (List PyData × Option Nat)) (R : It → Hp → Prop) : Prop := match o with
  | .ok q ρ' => ∀ J v F' H', PostL g.K g.E ρ σ F H ρ' [] [] F' H' → gval σ q.2 v → Itm g.K J q.1 (AGv g.K F' q.1 v) → R J H'
  | .exc c fs ρ' => excOk g ρ σ F H c fs ρ'
  | .bad => False
def rdI (g : Gx) (ρ : Env) (o : Res (List PyData × Option Nat)) : TI := fun σ H R => ∃ F, In g ρ σ F H ∧ wantI g ρ σ F H o R
theorem pi_imp {X : Cx} {tg e : Expr} {t t' : TI} (h : PI X tg e t) (i : ∀ σ H Q, t' σ H Q → t σ H Q) : PI X tg e t' := ⟨fun pins s σ H Q I q => h.run pins s σ H Q I (i σ H Q q)⟩
theorem pi_or {X : Cx} {tg e : Expr} {t t' : TI} (h : PI X tg e t) (h' : PI X tg e t') : PI X tg e (fun σ H R => t σ H R ∨ t' σ H R) :=
  ⟨fun pins s σ H Q I q => q.elim (h.run pins s σ H Q I) (h'.run pins s σ H Q I)⟩
theorem guard_dv {ds : List PyData} {j : Nat} {w : V} (x : SOk K E (getS ρ) (gv σ) F H) (hv : gv σ j = some w) (h : guardOk ρ ds (some j) = true) : Dv K F H w (.list ds) := by
  have h : (match getS ρ j with
    | some (.own (.lst es)) => sameAll es ds
    | some (.dat (.list es)) => sameAll es ds
    | _ => false) = true := h
  cases e : getS ρ j with
  | none =>
    rw [e] at h
    cases h
  | some s =>
    rw [e] at h
    obtain ⟨u, hu, q⟩ := x.at_ j s e
    rw [hv] at hu
    cases hu
    cases s with
    | exc c fs => cases h
    | glt ds => cases h
    | dat d => cases d with
      | list es =>
        rw [← sameAll_eq (show sameAll es ds = true from h)]
        exact .inl q
      | _ => cases h
    | own c => cases c with
      | dic t kvs => cases h
      | lst es =>
        rw [← sameAll_eq (show sameAll es ds = true from h)]
        obtain ⟨a, rfl, _, q⟩ := q
        exact .inr ⟨a, .lst es, rfl, q, rfl⟩
theorem itm_list {a : Addr} {ds : List PyData} {A : Hp → Hp → Prop} (h : ∀ F H, Ex F H → A F H → ∃ xs, SqL K H a xs ∧ RpAll K F xs ds) : Itm K (Itl K a) ds A := by
  refine ⟨fun F H i d e ha hi => ?_, fun F H i e ha hi => ?_⟩
  · obtain ⟨xs, hs, r⟩ := h F H e ha
    obtain ⟨x, hx, rx⟩ := r.get hi
    refine ⟨⟨xs, x, hs, hx⟩, fun y H' hy => ?_⟩
    obtain ⟨rfl, hy⟩ := hy
    have := hy xs hs
    rw [hx] at this
    cases this
    exact ⟨F, .same e rx⟩
  · obtain ⟨xs, hs, r⟩ := h F H e ha
    exact ⟨xs, hs, by rw [r.length]; exact hi⟩
theorem itm_tup {a : Addr} {ds : List PyData} {A : Hp → Hp → Prop} (h : ∀ F H, Ex F H → A F H → ∃ xs, SqT K H a xs ∧ RpAll K F xs ds) : Itm K (Itt K a) ds A := by
  refine ⟨fun F H i d e ha hi => ?_, fun F H i e ha hi => ?_⟩
  · obtain ⟨xs, hs, r⟩ := h F H e ha
    obtain ⟨x, hx, rx⟩ := r.get hi
    refine ⟨⟨xs, x, hs, hx⟩, fun y H' hy => ?_⟩
    obtain ⟨rfl, hy⟩ := hy
    have := hy xs hs
    rw [hx] at this
    cases this
    exact ⟨F, .same e rx⟩
  · obtain ⟨xs, hs, r⟩ := h F H e ha
    exact ⟨xs, hs, by rw [r.length]; exact hi⟩
theorem Rp.lstE {v : V} {ds : List PyData} (x : Rp K F v (.list ds)) : ∃ a xs, v = .ref a ∧ SqL K F a xs ∧ RpAll K F xs ds := by
  cases x with
  | lst h r => exact ⟨_, _, rfl, h.sq, r⟩
theorem Rp.tupE {v : V} {ds : List PyData} (x : Rp K F v (.tuple ds)) : ∃ a xs, v = .ref a ∧ SqT K F a xs ∧ RpAll K F xs ds := by
  cases x with
  | tup h r => exact ⟨_, _, rfl, SqT.of h, r⟩
  | con h c r => exact ⟨_, _, rfl, .inr h, r⟩
/-- a name, a call .. whose value is walked -/
theorem i_val {tg e : Expr} {ie : IE} (hK : g.K = X.K) (he : ∀ ρ, PE X e (rdE g ρ (evE p Φ ie ρ))) (ρ : Env) : PI X tg e (rdI g ρ (evI p Φ (.val ie) ρ)) := by
  refine pi_imp (pi_or (pi_list (he ρ)) (pi_or (pi_tup (he ρ)) (pi_str (he ρ)))) fun σ H R h => ?_
  obtain ⟨F, i, w⟩ := h
  unfold evI at w
  cases ho : evE p Φ ie ρ with
  | bad =>
    rw [ho] at w
    exact w.elim
  | exc c fs ρ1 =>
    rw [ho] at w
    exact .inl ⟨F, i, w⟩
  | ok r ρ1 =>
    rw [ho] at w
    rw [← hK]
    have frzn : ∀ {ds : List PyData} {v : V} {F1 F' H1 H' : Hp}, PostL g.K g.E ρ σ F H ρ1 [] [] F1 H1 → Rp g.K F1 v (.list ds) → wantI g ρ σ F H (.ok (ds, none) ρ1) R → ∃ a, v = .ref a ∧ (∃ xs, SqL g.K H1 a xs) ∧ R (Itl g.K a) H1 := fun {ds v F1 F' H1 H'} x q w => by
      obtain ⟨a, xs, rfl, hs, r⟩ := q.lstE
      exact ⟨a, rfl, ⟨xs, sqL_ex x.ok.sub hs⟩, w _ none F1 H1 x rfl (itm_list fun F' H' e ha => ⟨xs, sqL_ex (Ex.trans ha e) hs, r.mono ha⟩)⟩
    cases r with
    | slot j =>
      have w : wantI g ρ σ F H (match getS ρ1 j with
        | some (.own (.lst ds)) => .ok (ds, some j) ρ1
        | _ => .bad) R := w
      refine .inl ⟨F, i, fun v F1 H1 x => ?_⟩
      cases e : getS ρ1 j with
      | none =>
        rw [e] at w
        exact w.elim
      | some s =>
        rw [e] at w
        cases s with
        | dat d => exact w.elim
        | exc c fs => exact w.elim
        | glt ds => exact w.elim
        | own c => cases c with
          | dic t kvs => exact w.elim
          | lst ds =>
            obtain ⟨hv, _⟩ := x.slot 0 j rfl
            have hv : some v = gv σ j := hv
            obtain ⟨u, hu, a, rfl, hn, xs, hx, r⟩ := x.st.at_ j _ e
            rw [← hv] at hu
            cases hu
            exact ⟨a, rfl, ⟨xs, SqL.of hx⟩, w _ (some (.ref a)) F1 H1 x.drop ⟨_, rfl, hv.symm⟩ (itm_list fun F' H' e ha => by
              obtain ⟨a', xs, ea, hs, r⟩ := Dv.lst ha e
              cases ea
              exact ⟨xs, hs, r⟩)⟩
    | val s => cases s with
      | exc c fs => exact w.elim
      | glt ds => exact w.elim
      | own c => cases c with
        | dic t kvs => exact w.elim
        | lst ds =>
          refine .inl ⟨F, i, fun v F1 H1 x => ?_⟩
          obtain ⟨F2, y, ex, r⟩ := x.frz (ρ2 := ρ1) (ds := [.list ds]) rfl
          cases r with
          | cons r _ => exact frzn (F' := F) (H' := H) y r w
      | dat d => cases d with
        | list ds =>
          refine .inl ⟨F, i, fun v F1 H1 x => ?_⟩
          have q := (x.data1 0 rfl rfl (d := .list ds) rfl)
          obtain ⟨u, hu, q⟩ := x.ok.at_ (.inr 0) (.dat (.list ds)) rfl
          have hu : some v = some u := hu
          cases hu
          exact frzn (F' := F) (H' := H) x.drop q w
        | tuple ds =>
          refine .inr (.inl ⟨F, i, fun v F1 H1 x => ?_⟩)
          obtain ⟨u, hu, q⟩ := x.ok.at_ (.inr 0) (.dat (.tuple ds)) rfl
          have hu : some v = some u := hu
          cases hu
          obtain ⟨a, xs, rfl, hs, r⟩ := Rp.tupE q
          exact ⟨a, rfl, ⟨xs, sqT_ex x.ok.sub hs⟩, w _ none F1 H1 x.drop rfl (itm_tup fun F' H' e ha => ⟨xs, sqT_ex (Ex.trans ha e) hs, r.mono ha⟩)⟩
        | str y =>
          refine .inr (.inr ⟨F, i, fun v F1 H1 x => ?_⟩)
          obtain ⟨u, hu, q⟩ := x.ok.at_ (.inr 0) (.dat (.str y)) rfl
          have hu : some v = some u := hu
          cases hu
          cases q
          refine ⟨y, rfl, w _ none F1 H1 x.drop rfl ⟨fun F' H' i d e ha hi => ?_, fun F' H' i e ha hi => ?_⟩⟩
          · rw [List.getElem?_map] at hi
            cases hc : y.cps.toList[i]? with
            | none =>
              rw [hc] at hi
              cases hi
            | some c =>
              rw [hc] at hi
              cases hi
              have hlt : i < y.cps.size := by
                have := (List.getElem?_eq_some_iff.mp hc).1
                simpa using this
              refine ⟨hlt, fun z H2 hz => ?_⟩
              obtain ⟨rfl, c', hc', rfl⟩ := hz
              have : c' = c := by
                have h2 : y.cps.toList[i]? = some c' := by simpa using hc'
                rw [hc] at h2
                cases h2
                rfl
              rw [this]
              exact ⟨F', .same e (.str _)⟩
          · have hi : (y.cps.toList.map fun c => PyData.str ⟨#[c]⟩).length ≤ i := hi
            show y.cps.size ≤ i
            simpa using hi
        | _ => exact w.elim
theorem want_rng {ds : List PyData} {vs : List V} (x : PostL g.K g.E ρ σ F H ρ1 rs vs F1 H1) {R : It → Hp → Prop} (w : wantI g ρ σ F H (match (dataAll ρ1 rs).bind rangeD with
    | some xs => .ok (xs, none) ρ1
    | none => .bad) R) : ∃ es xs, DvAll g.K F1 H1 vs es ∧ rangeD es = some xs ∧ ∀ J, Itm g.K J xs (fun F _ => Ex F1 F) → R J H1 := by
  cases e : dataAll ρ1 rs with
  | none =>
    rw [e] at w
    exact w.elim
  | some es =>
    rw [e] at w
    have w : wantI g ρ σ F H (match rangeD es with
      | some xs => .ok (xs, none) ρ1
      | none => .bad) R := w
    cases e2 : rangeD es with
    | none =>
      rw [e2] at w
      exact w.elim
    | some xs =>
      rw [e2] at w
      exact ⟨es, xs, x.data e, e2, fun J it => w J none F1 H1 x.drop rfl it⟩
theorem itm_rng {lo : Int} {n : Nat} {A : Hp → Hp → Prop} : Itm K (Itr lo n) ((List.range n).map fun (i : Nat) => .int (lo + (i : Int))) A := by
  refine ⟨fun F H i d e ha hi => ?_, fun F H i e ha hi => ?_⟩
  · rw [List.getElem?_map] at hi
    by_cases h : i < n
    · rw [List.getElem?_range h] at hi
      cases hi
      refine ⟨h, fun x H' hx => ?_⟩
      obtain ⟨rfl, rfl⟩ := hx
      exact ⟨F, .same e (.int _)⟩
    · rw [List.getElem?_eq_none (by simpa using h)] at hi
      cases hi
  · show n ≤ i
    simpa using hi
theorem evEs_length : ∀ {es : List IE} {ρ ρ1 : Env} {rs : List Rv}, evEs p Φ es ρ = .ok rs ρ1 → rs.length = es.length
  | [], ρ, ρ1, rs, h => by
    unfold evEs at h
    cases h
    rfl
  | e :: es, ρ, ρ1, rs, h => by
    unfold evEs at h
    cases h1 : evE p Φ e ρ with
    | bad =>
      rw [h1] at h
      cases h
    | exc c fs ρ2 =>
      rw [h1] at h
      cases h
    | ok r ρ2 =>
      rw [h1] at h
      have h : ((evEs p Φ es ρ2).bind fun rs ρ => Res.ok (r :: rs) ρ) = .ok rs ρ1 := h
      cases h2 : evEs p Φ es ρ2 with
      | bad =>
        rw [h2] at h
        cases h
      | exc c fs ρ3 =>
        rw [h2] at h
        cases h
      | ok qs ρ3 =>
        rw [h2] at h
        have h : Res.ok (r :: qs) ρ3 = Res.ok rs ρ1 := h
        cases h
        rw [List.length_cons, List.length_cons, evEs_length h2]
theorem DvAll.length : ∀ {vs : List V} {ds : List PyData}, DvAll K F H vs ds → vs.length = ds.length
  | _, _, .nil => rfl
  | _, _, .cons _ r => by rw [List.length_cons, List.length_cons, DvAll.length r]
theorem rng_ok {n : Int} (h : rngOk n = true) : -(2 ^ 62) ≤ n ∧ n < 2 ^ 62 := by
  obtain ⟨h1, h2⟩ := Bool.and_eq_true_iff.mp (show (decide (-1000000 ≤ n) && decide (n ≤ 1000000)) = true from h)
  have h1 := of_decide_eq_true h1
  have h2 := of_decide_eq_true h2
  constructor <;> omega
theorem i_rng1 {tg a : Expr} {ia : IE} {pp pos : Pos} (hg : Gl X "range") (hm : X.mg "range" = none) (hs : starEach [a] X.env = [(false, eval a X.env)]) (ha : ∀ ρ, PA X [a] (rdA g ρ (evEs p Φ [ia] ρ))) (ρ : Env) :
    PI X tg (.Call (.Name "range" pp) [a] [] pos) (rdI g ρ (evI p Φ (.rng [ia]) ρ)) := by
  refine pi_imp (pi_range1 hg hm (ha ρ) hs) fun σ H R h => ?_
  obtain ⟨F, i, w⟩ := h
  unfold evI at w
  refine ⟨F, i, ?_⟩
  cases ho : evEs p Φ [ia] ρ with
  | bad =>
    rw [ho] at w
    exact w.elim
  | exc c fs ρ1 =>
    rw [ho] at w
    exact w
  | ok rs ρ1 =>
    rw [ho] at w
    refine fun vs F1 H1 x => ?_
    obtain ⟨es, xs, dv, hr, k⟩ := want_rng (ds := []) x w
    have hl : es.length = 1 := by rw [← dv.length, ← x.vl, evEs_length ho]; rfl
    cases dv with
    | nil => cases hl
    | cons d1 dr => cases dr with
      | cons d2 dr => cases hl
      | nil =>
        rename_i v d
        cases d with
        | int n =>
          have hr : (if rngOk n then some ((List.range n.toNat).map fun (i : Nat) => PyData.int (0 + (i : Int))) else none) = some xs := hr
          cases hn : rngOk n with
          | false =>
            rw [hn] at hr
            cases hr
          | true =>
            rw [hn] at hr
            cases hr
            obtain ⟨h1, h2⟩ := rng_ok hn
            rw [d1.int]
            exact ⟨n, rfl, h1, h2, k _ itm_rng⟩
        | _ => cases hr
theorem i_rng2 {tg a b : Expr} {ia ib : IE} {pp pos : Pos} (hg : Gl X "range") (hm : X.mg "range" = none) (hs : starEach [a, b] X.env = [(false, eval a X.env), (false, eval b X.env)]) (hs2 : starEach [b] X.env = [(false, eval b X.env)]) (ha : ∀ ρ, PA X [a, b] (rdA g ρ (evEs p Φ [ia, ib] ρ))) (ρ : Env) :
    PI X tg (.Call (.Name "range" pp) [a, b] [] pos) (rdI g ρ (evI p Φ (.rng [ia, ib]) ρ)) := by
  refine pi_imp (pi_range2 hg hm (ha ρ) hs hs2) fun σ H R h => ?_
  obtain ⟨F, i, w⟩ := h
  unfold evI at w
  refine ⟨F, i, ?_⟩
  cases ho : evEs p Φ [ia, ib] ρ with
  | bad =>
    rw [ho] at w
    exact w.elim
  | exc c fs ρ1 =>
    rw [ho] at w
    exact w
  | ok rs ρ1 =>
    rw [ho] at w
    refine fun vs F1 H1 x => ?_
    obtain ⟨es, xs, dv, hr, k⟩ := want_rng (ds := []) x w
    have hl : es.length = 2 := by rw [← dv.length, ← x.vl, evEs_length ho]; rfl
    cases dv with
    | nil => cases hl
    | cons d1 dr => cases dr with
      | nil => cases hl
      | cons d2 dr => cases dr with
        | cons d3 dr => cases hl
        | nil =>
          rename_i v d u e
          cases d with
          | int n => cases e with
            | int m =>
              have hr : (if rngOk n && rngOk m then some ((List.range (m - n).toNat).map fun (i : Nat) => PyData.int (n + (i : Int))) else none) = some xs := hr
              cases hn : (rngOk n && rngOk m) with
              | false =>
                rw [hn] at hr
                cases hr
              | true =>
                rw [hn] at hr
                cases hr
                obtain ⟨h0, h3⟩ := Bool.and_eq_true_iff.mp hn
                obtain ⟨h1, h2⟩ := rng_ok h0
                obtain ⟨h4, h5⟩ := rng_ok h3
                rw [d1.int, d2.int]
                exact ⟨n, m, rfl, ⟨h1, h2, h4, h5⟩, k _ itm_rng⟩
            | _ => cases hr
          | _ => cases hr
end Mini
/-! Mini, part H: targets; list comprehensions. -/
namespace Mini
open PySem L2
variable {g : Gx} {ρ ρ1 ρ2 : Env} {σ : St} {F H F1 H1 F2 H2 : Hp} {rs qs : List Rv} {vs us : List V} {X : Cx} {p : Pg} {Φ : Orc}
variable {K : PySem.W.Frag} {E : EP}

/-- a new thing beside the others -/
theorem SOk.newv {ι : Type} {s : ι → Option Sv} {v : ι → Option V} {z : Sv} {w : V} (x : SOk K E s v F H) (n : NewV K F H z w F1 H1) : SOk K E (Sum.elim s (one z)) (Sum.elim v (onev w)) F1 H1 := by
  have fresh : ∀ c a, z = .own c → w = .ref a → H a = none := fun c a hz hw => by
    have q := n.at_
    rw [hz] at q
    obtain ⟨a', ha, hn, _⟩ := q
    rw [hw] at ha
    cases ha
    exact hn
  refine ⟨n.sub, fun i y hy => ?_, fun i j b hi hj => ?_⟩
  · cases i with
    | inl i =>
      obtain ⟨u, hu, q⟩ := x.at_ i y hy
      refine ⟨u, hu, ?_⟩
      cases y with
      | dat d => exact Rp.mono n.exF q
      | glt ds => exact q
      | exc c fs => exact q
      | own c =>
        obtain ⟨a, rfl, hn, hc⟩ := q
        obtain ⟨o, ho⟩ := hc.there
        refine ⟨a, rfl, ?_, hc.keep n.exF fun o h => n.exH _ _ h⟩
        cases f : F1 a with
        | none => rfl
        | some o' =>
          have := n.grow a o' f hn
          rw [ho] at this
          cases this
    | inr i =>
      have hy : some z = some y := hy
      cases hy
      refine ⟨w, rfl, ?_⟩
      have q := n.at_
      cases z with
      | dat d => exact q
      | own c =>
        obtain ⟨a, e, _, h1, h2⟩ := q
        exact ⟨a, e, h1, h2⟩
      | exc c fs => exact q.elim
      | glt ds => exact q.elim
  · have old : ∀ i, Owns s v i b → H b ≠ none := fun i hi e => by
      obtain ⟨_, o, ho⟩ := x.own ⟨i, hi⟩
      rw [e] at ho
      cases ho
    have nw : ∀ m, Owns (one z) (onev w) m b → H b = none := fun m ⟨⟨c, hc⟩, hv⟩ => by
      have hc : some z = some (.own c) := hc
      have hv : some w = some (V.ref b) := hv
      cases hc
      cases hv
      exact fresh c b rfl rfl
    cases i with
    | inl i => cases j with
      | inl j => exact congrArg Sum.inl (x.inj i j b hi hj)
      | inr m => exact absurd (nw m hj) (old i hi)
    | inr m => cases j with
      | inl j => exact absurd (nw m hi) (old j hj)
      | inr m' => rfl
/-- a container is written -/
theorem SOk.write {ι : Type} [DecidableEq ι] {s : ι → Option Sv} {v : ι → Option V} {i : ι} {c c' : Ct} {a : Addr} {o : HO} (x : SOk K E s v F H) (hs : s i = some (.own c)) (hv : v i = some (.ref a)) (hc : CtAt K F (upd H a o) a c') :
    SOk K E (upS s i (some (.own c'))) v F (upd H a o) := by
  obtain ⟨hF, _⟩ := x.own (a := a) ⟨i, ⟨c, hs⟩, hv⟩
  refine ⟨fun b u hb => ?_, fun j y hy => ?_, fun j k b hj hk => ?_⟩
  · rw [upd_ne (fun e => by rw [e, hF] at hb; cases hb)]
    exact x.sub b u hb
  · unfold upS at hy
    by_cases hj : j = i
    · rw [if_pos hj] at hy
      cases hy
      exact ⟨_, by rw [hj, hv], a, rfl, hF, hc⟩
    · rw [if_neg hj] at hy
      obtain ⟨u, hu, q⟩ := x.at_ j y hy
      refine ⟨u, hu, ?_⟩
      cases y with
      | dat d => exact q
      | glt ds => exact q
      | exc c fs => exact q
      | own c2 =>
        obtain ⟨b, rfl, hn, q⟩ := q
        have ne : b ≠ a := fun e => hj (x.inj j i a ⟨⟨c2, hy⟩, by rw [hu, e]⟩ ⟨⟨c, hs⟩, hv⟩)
        exact ⟨b, rfl, hn, q.keep (Ex.refl F) fun o' h => by rw [upd_ne ne]; exact h⟩
  · obtain ⟨⟨c1, h1⟩, h2⟩ := hj
    obtain ⟨⟨c3, h3⟩, h4⟩ := hk
    unfold upS at h1 h3
    refine x.inj j k b ⟨?_, h2⟩ ⟨?_, h4⟩
    · by_cases e : j = i
      · exact ⟨c, by rw [e, hs]⟩
      · rw [if_neg e] at h1
        exact ⟨c1, h1⟩
    · by_cases e : k = i
      · exact ⟨c, by rw [e, hs]⟩
      · rw [if_neg e] at h3
        exact ⟨c3, h3⟩

/-! ### targets -/
mutual
/-- a target's reading -/
def tgR (K : PySem.W.Frag) : Tgt → TG
  | .name i => gName i
  | .tup ts => gTup K ts.length (tgsR K ts)
def tgsR (K : PySem.W.Frag) : List Tgt → TGs
  | [] => gNil
  | t :: ts => gCons (tgR K t) (tgsR K ts)
end
structure AsgOk (K : PySem.W.Frag) (F : Hp) (ρ : Env) (σ : St) (ρ' : Env) (σ' : St) (S : List Nat) : Prop where
  len : ρ'.length = ρ.length
  lenσ : σ'.length = σ.length
  same : ∀ i, i ∉ S → σ'[i]? = σ[i]? ∧ getS ρ' i = getS ρ i
  new : ∀ i, i ∈ S → i < ρ.length → ∃ v d, gv σ' i = some v ∧ getS ρ' i = some (.dat d) ∧ Rp K F v d
theorem AsgOk.refl : AsgOk K F ρ σ ρ σ [] := ⟨rfl, rfl, fun _ _ => ⟨rfl, rfl⟩, fun i h => by simp at h⟩
theorem AsgOk.trans {σ1 σ2 : St} {S S' : List Nat} (a : AsgOk K F ρ σ ρ1 σ1 S) (b : AsgOk K F ρ1 σ1 ρ2 σ2 S') : AsgOk K F ρ σ ρ2 σ2 (S ++ S') := by
  refine ⟨b.len.trans a.len, b.lenσ.trans a.lenσ, fun i h => ?_, fun i h hl => ?_⟩
  · rw [List.mem_append, not_or] at h
    obtain ⟨h1, h2⟩ := a.same i h.1
    obtain ⟨h3, h4⟩ := b.same i h.2
    exact ⟨h3.trans h1, h4.trans h2⟩
  · by_cases h' : i ∈ S'
    · exact b.new i h' (by rw [a.len]; exact hl)
    · obtain ⟨h3, h4⟩ := b.same i h'
      rcases List.mem_append.mp h with h | h
      · obtain ⟨v, d, e1, e2, r⟩ := a.new i h hl
        refine ⟨v, d, ?_, h4.trans e2, r⟩
        unfold gv at e1 ⊢
        rw [h3]
        exact e1
      · exact absurd h h'
theorem getS_ge {i : Nat} (h : ρ.length ≤ i) : getS ρ i = none := by
  unfold getS
  rw [List.getElem?_eq_none h]
  rfl
theorem AsgOk.sok {σ' : St} {S : List Nat} (a : AsgOk K F ρ σ ρ1 σ' S) (x : SOk K E (getS ρ) (gv σ) F H) : SOk K E (getS ρ1) (gv σ') F H := by
  have cs : ∀ i, (gv σ' i = gv σ i ∧ getS ρ1 i = getS ρ i) ∨ (∃ v d, gv σ' i = some v ∧ getS ρ1 i = some (.dat d) ∧ Rp K F v d) ∨ getS ρ1 i = none := fun i => by
    by_cases h : i ∈ S
    · by_cases hl : i < ρ.length
      · exact .inr (.inl (a.new i h hl))
      · exact .inr (.inr (getS_ge (by rw [a.len]; omega)))
    · obtain ⟨h1, h2⟩ := a.same i h
      exact .inl ⟨by unfold gv; rw [h1], h2⟩
  refine ⟨x.sub, fun i y hy => ?_, fun i j b hi hj => ?_⟩
  · rcases cs i with ⟨h1, h2⟩ | ⟨v, d, h1, h2, r⟩ | h
    · rw [h2] at hy
      obtain ⟨u, hu, q⟩ := x.at_ i y hy
      exact ⟨u, by rw [h1, hu], q⟩
    · rw [h2] at hy
      cases hy
      exact ⟨v, h1, r⟩
    · rw [h] at hy
      cases hy
  · have back : ∀ i, Owns (getS ρ1) (gv σ') i b → Owns (getS ρ) (gv σ) i b := fun i ⟨⟨c, hc⟩, hv⟩ => by
      rcases cs i with ⟨h1, h2⟩ | ⟨v, d, h1, h2, r⟩ | h
      · exact ⟨⟨c, by rw [← h2, hc]⟩, by rw [← h1, hv]⟩
      · rw [h2] at hc
        cases hc
      · rw [h] at hc
        cases hc
    exact x.inj i j b (back i hi) (back j hj)
theorem AsgOk.own {σ' : St} {S : List Nat} (a : AsgOk K F ρ σ ρ1 σ' S) {b : Addr} (h : Own (getS ρ1) (gv σ') b) : Own (getS ρ) (gv σ) b := by
  obtain ⟨i, ⟨c, hc⟩, hv⟩ := h
  by_cases hS : i ∈ S
  · by_cases hl : i < ρ.length
    · obtain ⟨v, d, h1, h2, r⟩ := a.new i hS hl
      rw [h2] at hc
      cases hc
    · rw [getS_ge (by rw [a.len]; omega)] at hc
      cases hc
  · obtain ⟨h1, h2⟩ := a.same i hS
    refine ⟨i, ⟨c, by rw [← h2, hc]⟩, ?_⟩
    unfold gv at hv ⊢
    rw [← h1, hv]
mutual
theorem tgR_ok : ∀ {t : Tgt} {d : PyData} {v : V} {ρ ρ1 : Env} {σ : St} {Q : St → Hp → Prop}, σ.length = ρ.length → Ex F H → Rp K F v d → asgT t d ρ = some ρ1 → (∀ σ', AsgOk K F ρ σ ρ1 σ' (namesT t) → Q σ' H) → tgR K t v σ H Q
  | .name i, d, v, ρ, ρ1, σ, Q, hl, e, r, h, q => by
    have h : some (ρ.set i (some (.dat d))) = some ρ1 := h
    cases h
    refine q _ ⟨List.length_set, List.length_set, fun j hj => ?_, fun j hj hlt => ?_⟩
    · have hj : j ∉ [i] := hj
      have ne : j ≠ i := by simpa using hj
      exact ⟨List.getElem?_set_ne (fun z => ne z.symm), getS_set_ne ne⟩
    · have hj : j ∈ [i] := hj
      have e : j = i := by simpa using hj
      subst e
      refine ⟨v, d, ?_, getS_set_lt hlt, r⟩
      unfold gv
      rw [List.getElem?_set_self (by rw [hl]; exact hlt)]
      rfl
  | .tup ts, d, v, ρ, ρ1, σ, Q, hl, e, r, h, q => by
    cases d with
    | tuple ds =>
      obtain ⟨a, xs, rfl, hs, ra⟩ := r.tupE
      have h : asgTs ts ds ρ = some ρ1 := h
      have hlen : ts.length = ds.length := asgTs_length h
      exact ⟨a, xs, rfl, sqT_ex e hs, by rw [ra.length, hlen], tgsR_ok hl e ra h q⟩
    | _ => cases h
theorem tgsR_ok : ∀ {ts : List Tgt} {ds : List PyData} {vs : List V} {ρ ρ1 : Env} {σ : St} {Q : St → Hp → Prop}, σ.length = ρ.length → Ex F H → RpAll K F vs ds → asgTs ts ds ρ = some ρ1 → (∀ σ', AsgOk K F ρ σ ρ1 σ' (namesTs ts) → Q σ' H) → tgsR K ts vs σ H Q
  | [], [], vs, ρ, ρ1, σ, Q, hl, e, r, h, q => by
    cases h
    cases r
    exact ⟨rfl, q σ AsgOk.refl⟩
  | [], _ :: _, vs, ρ, ρ1, σ, Q, hl, e, r, h, q => by cases h
  | _ :: _, [], vs, ρ, ρ1, σ, Q, hl, e, r, h, q => by cases h
  | t :: ts, d :: ds, vs, ρ, ρ1, σ, Q, hl, e, r, h, q => by
    have h : ((asgT t d ρ).bind fun ρ1 => asgTs ts ds ρ1) = some ρ1 := h
    cases h1 : asgT t d ρ with
    | none =>
      rw [h1] at h
      cases h
    | some ρ2 =>
      rw [h1] at h
      cases r with
      | cons rv rr =>
        exact ⟨_, _, rfl, tgR_ok hl e rv h1 fun σ1 a1 => tgsR_ok (by rw [a1.lenσ, a1.len, hl]) e rr h fun σ2 a2 => q σ2 (a1.trans a2)⟩
theorem asgTs_length : ∀ {ts : List Tgt} {ds : List PyData} {ρ ρ1 : Env}, asgTs ts ds ρ = some ρ1 → ts.length = ds.length
  | [], [], _, _, _ => rfl
  | [], _ :: _, _, _, h => by cases h
  | _ :: _, [], _, _, h => by cases h
  | t :: ts, d :: ds, ρ, ρ1, h => by
    have h : ((asgT t d ρ).bind fun ρ1 => asgTs ts ds ρ1) = some ρ1 := h
    cases h1 : asgT t d ρ with
    | none =>
      rw [h1] at h
      cases h
    | some ρ2 =>
      rw [h1] at h
      rw [List.length_cons, List.length_cons, asgTs_length h]
end
/-! ### slots forgotten -/
theorem gv_wipe {σ : St} {i : Nat} : ∀ {vs : List Nat}, gv (wipe σ vs) i = if i ∈ vs then none else gv σ i
  | [] => by
    rw [if_neg (by simp)]
    rfl
  | v :: vs => by
    have ih := gv_wipe (σ := σ) (i := i) (vs := vs)
    unfold wipe
    unfold gv at ih ⊢
    by_cases h : v = i
    · subst h
      rw [if_pos List.mem_cons_self]
      by_cases hl : v < (wipe σ vs).length
      · rw [List.getElem?_set_self hl]
        rfl
      · rw [List.getElem?_eq_none (by simpa using hl)]
        rfl
    · rw [List.getElem?_set_ne h, ih]
      by_cases h' : i ∈ vs
      · rw [if_pos h', if_pos (List.mem_cons_of_mem _ h')]
      · rw [if_neg h', if_neg (by simp only [List.mem_cons, not_or]; exact ⟨fun e => h e.symm, h'⟩)]
theorem getS_wipe {i : Nat} : ∀ {vs : List Nat}, getS (wipeE ρ vs) i = if i ∈ vs then none else getS ρ i
  | [] => by
    rw [if_neg (by simp)]
    rfl
  | v :: vs => by
    have ih := getS_wipe (i := i) (vs := vs)
    unfold wipeE
    by_cases h : v = i
    · subst h
      rw [if_pos List.mem_cons_self]
      by_cases hl : v < (wipeE ρ vs).length
      · exact getS_set_lt hl
      · exact getS_ge (by rw [List.length_set]; omega)
    · rw [getS_set_ne (fun e => h e.symm), ih]
      by_cases h' : i ∈ vs
      · rw [if_pos h', if_pos (List.mem_cons_of_mem _ h')]
      · rw [if_neg h', if_neg (by simp only [List.mem_cons, not_or]; exact ⟨fun e => h e.symm, h'⟩)]
theorem wipeE_length : ∀ {vs : List Nat}, (wipeE ρ vs).length = ρ.length
  | [] => rfl
  | v :: vs => by
    unfold wipeE
    rw [List.length_set, wipeE_length]
theorem restE_length {ρ0 : Env} : ∀ {vs : List Nat}, (restE ρ0 ρ vs).length = ρ.length
  | [] => rfl
  | v :: vs => by
    unfold restE
    rw [List.length_set, restE_length]
theorem getS_rest {ρ0 : Env} {i : Nat} (hl : ρ.length = ρ0.length) : ∀ {vs : List Nat}, getS (restE ρ0 ρ vs) i = if i ∈ vs then getS ρ0 i else getS ρ i
  | [] => by
    rw [if_neg (by simp)]
    rfl
  | v :: vs => by
    have ih := getS_rest (i := i) hl (vs := vs)
    unfold restE
    by_cases h : v = i
    · subst h
      rw [if_pos List.mem_cons_self]
      by_cases hlt : v < (restE ρ0 ρ vs).length
      · exact getS_set_lt hlt
      · rw [getS_ge (by rw [List.length_set]; omega), getS_ge (by rw [restE_length] at hlt; omega)]
    · rw [getS_set_ne (fun e => h e.symm), ih]
      by_cases h' : i ∈ vs
      · rw [if_pos h', if_pos (List.mem_cons_of_mem _ h')]
      · rw [if_neg h', if_neg (by simp only [List.mem_cons, not_or]; exact ⟨fun e => h e.symm, h'⟩)]
end Mini
/-! Mini, part I: list comprehensions. -/
namespace Mini
open PySem L2
variable {g : Gx} {ρ ρ1 ρ2 : Env} {σ : St} {F H F1 H1 F2 H2 : Hp} {rs qs : List Rv} {vs us : List V} {X : Cx} {p : Pg} {Φ : Orc}
variable {K : PySem.W.Frag} {E : EP}

/-- nothing is let out -/
abbrev Gx.no (g : Gx) : Gx := { g with W := fun _ _ _ _ => False }
/-- a clause's element and tests, for whatever slots -/
def uE (g : Gx) (p : Pg) (Φ : Orc) (e : IE) : TE := fun σ H Q => ∃ ρ, rdE g ρ (evE p Φ e ρ) σ H Q
def uC (g : Gx) (p : Pg) (Φ : Orc) (cs : List IE) : TT := fun σ H Q => ∃ ρ, rdT g ρ (evC p Φ cs ρ) σ H Q
theorem pe_u {e : Expr} {ie : IE} (h : ∀ ρ, PE X e (rdE g ρ (evE p Φ ie ρ))) : PE X e (uE g p Φ ie) := ⟨fun pins s σ H Q I ⟨ρ, q⟩ => (h ρ).run pins s σ H Q I q⟩
theorem pts_u0 : PTs X [] (uC g p Φ []) := ⟨fun pins s σ H Q I ⟨ρ, F, i, w⟩ => by
  unfold evC at w
  exact pts_nil.run pins s σ H Q I (w F H (PostL.refl i.2))⟩
theorem evC_one {c : IE} : evC p Φ [c] ρ = evT p Φ c ρ := by
  unfold evC evT
  cases evE p Φ c ρ with
  | ok r ρ1 =>
    show (match (r.data ρ1).bind truD with
      | some true => evC p Φ [] ρ1
      | some false => Res.ok false ρ1
      | none => Res.bad) = truR ρ1 r
    rw [truR_eq]
    cases (r.data ρ1).bind truD with
    | none => rfl
    | some b => cases b with
      | true =>
        unfold evC
        rfl
      | false => rfl
  | exc c fs ρ1 => rfl
  | bad => rfl
theorem pts_u1 {c : Expr} {ic : IE} (h : ∀ ρ, PT X c (rdT g ρ (evT p Φ ic ρ))) : PTs X [c] (uC g p Φ [ic]) := by
  refine pts_one ⟨fun pins s σ H Q I ⟨ρ, q⟩ => ?_⟩
  rw [evC_one] at q
  exact (h ρ).run pins s σ H Q I q

/-- the fold of a comprehension's turns -/
def lcF (p : Pg) (Φ : Orc) (v : Tgt) (vs : List Nat) (cs : List IE) (e : IE) (acc : List PyData) (x : PyData) (ρ1 : Env) : Res (List PyData) := match asgT v x (wipeE ρ1 vs) with
  | none => .bad
  | some ρ2 => (evC p Φ cs ρ2).bind fun b ρ3 => if b then (evE p Φ e ρ3).bind fun r ρ4 => (match frz ρ4 r with
    | some (d, ρ5) => if fitN acc.length then .ok (acc ++ [d]) ρ5 else .bad
    | none => .bad) else .ok acc ρ3
theorem lc_eq {v : Tgt} {vs : List Nat} {it : II} {cs : List IE} {e : IE} : evE p Φ (.lc v vs it cs e) ρ = (evI p Φ it ρ).bind fun q ρ0 =>
    (match foldR (fun ρ1 => guardOk (wipeE ρ1 vs) q.1 q.2) (lcF p Φ v vs cs e) q.1 [] (wipeE ρ0 vs) with
    | .ok acc ρ1 => .ok (.val (.own (.lst acc))) (restE ρ0 ρ1 vs)
    | _ => .bad) := by
  unfold evE
  rfl
theorem frz_get {r : Rv} {d : PyData} (h : frz ρ r = some (d, ρ1)) : frzAll ρ [r] = some ([d], ρ1) := by
  show ((frz ρ r).bind fun p => (frzAll p.2 []).map fun q => (p.1 :: q.1, q.2)) = _
  rw [h]
  rfl
/-- the state at a comprehension's turn -/
structure LcSt (K : PySem.W.Frag) (E : EP) (ρ0 : Env) (σ : St) (vs : List Nat) (F1 H1 : Hp) (D : Addr) (ρi : Env) (acc : List PyData) (F H : Hp) : Prop where
  ok : SOk K E (Sum.elim (getS (wipeE ρi vs)) (one (.own (.lst acc)))) (Sum.elim (gv (wipe σ vs)) (onev (.ref D))) F H
  stp : Stp (Own (getS (wipeE ρ0 vs)) (gv (wipe σ vs))) F1 H1 F H
  own : ∀ b, Own (getS (wipeE ρi vs)) (gv (wipe σ vs)) b → Own (getS (wipeE ρ0 vs)) (gv (wipe σ vs)) b ∨ H1 b = none
  len : ρi.length = ρ0.length
  som : ∀ i, i ∉ vs → (getS ρ0 i).isSome = true → (getS ρi i).isSome = true
theorem LcSt.start {ρ0 : Env} {vs : List Nat} {D : Addr} (x : SOk K E (getS ρ0) (gv σ) F1 H1) (hD : H1 D = none) : LcSt K E ρ0 σ vs F1 H1 D (wipeE ρ0 vs) [] F1 (upd H1 D (.lst [])) := by
  have ww : ∀ i, getS (wipeE (wipeE ρ0 vs) vs) i = getS (wipeE ρ0 vs) i := fun i => by
    rw [getS_wipe, getS_wipe]
    by_cases h : i ∈ vs
    · rw [if_pos h, if_pos h]
    · rw [if_neg h]
  have base : SOk K E (getS (wipeE ρ0 vs)) (gv (wipe σ vs)) F1 H1 := x.part id (fun _ _ _ _ e => e) fun i hi => by
    rw [getS_wipe] at hi ⊢
    rw [gv_wipe]
    by_cases h : i ∈ vs
    · rw [if_pos h] at hi
      exact absurd rfl hi
    · rw [if_neg h, if_neg h]
      exact ⟨rfl, rfl⟩
  refine ⟨(base.newv (NewV.lst (ds := []) x.sub hD .nil)).congr (fun i => ?_) fun _ => rfl, ⟨Ex.refl _, fun b o h _ => ?_, fun b o h h' => by rw [h] at h'; cases h'⟩, fun b hb => ?_, wipeE_length, fun i hi h => ?_⟩
  · cases i with
    | inl i => exact ww i
    | inr i => rfl
  · exact ex_upd hD b o h
  · obtain ⟨i, ⟨c, hc⟩, hv⟩ := hb
    exact .inl ⟨i, ⟨c, by rw [← ww, hc]⟩, hv⟩
  · rw [getS_wipe, if_neg hi]
    exact h
/-- behind the last turn -/
theorem LcSt.done {ρ0 ρi : Env} {vs : List Nat} {D : Addr} {acc : List PyData} (x : SOk K E (getS ρ0) (gv σ) F1 H1) (hD : H1 D = none) (y : LcSt K E ρ0 σ vs F1 H1 D ρi acc F H) : PostL K E ρ0 σ F1 H1 (restE ρ0 ρi vs) [.val (.own (.lst acc))] [.ref D] F H := by
  have upw : ∀ b, Own (getS (wipeE ρ0 vs)) (gv (wipe σ vs)) b → Own (getS ρ0) (gv σ) b := fun b ⟨i, ⟨c, hc⟩, hv⟩ => by
    rw [getS_wipe] at hc
    rw [gv_wipe] at hv
    by_cases h : i ∈ vs
    · rw [if_pos h] at hc
      cases hc
    · rw [if_neg h] at hc hv
      exact ⟨i, ⟨c, hc⟩, hv⟩
  -- split the slots
  have split : SOk K E (Sum.elim (getS (wipeE ρ0 vs)) (fun i => if i ∈ vs then getS ρ0 i else none)) (Sum.elim (gv (wipe σ vs)) (gv σ)) F1 H1 := by
    refine x.part (fun i => match i with
      | .inl i => i
      | .inr i => i) (fun i j hi hj e => ?_) (fun i hi => ?_)
    · cases i with
      | inl i =>
        have hi : getS (wipeE ρ0 vs) i ≠ none := hi
        rw [getS_wipe] at hi
        cases j with
        | inl j => exact congrArg Sum.inl e
        | inr j =>
          have hj : (if j ∈ vs then getS ρ0 j else none) ≠ none := hj
          have e : i = j := e
          subst e
          by_cases h : i ∈ vs
          · rw [if_pos h] at hi
            exact absurd rfl hi
          · rw [if_neg h] at hj
            exact absurd rfl hj
      | inr i =>
        have hi : (if i ∈ vs then getS ρ0 i else none) ≠ none := hi
        cases j with
        | inl j =>
          have hj : getS (wipeE ρ0 vs) j ≠ none := hj
          rw [getS_wipe] at hj
          have e : i = j := e
          subst e
          by_cases h : i ∈ vs
          · rw [if_pos h] at hj
            exact absurd rfl hj
          · rw [if_neg h] at hi
            exact absurd rfl hi
        | inr j => exact congrArg Sum.inr e
    · cases i with
      | inl i =>
        have hi : getS (wipeE ρ0 vs) i ≠ none := hi
        show getS (wipeE ρ0 vs) i = _ ∧ gv (wipe σ vs) i = _
        rw [getS_wipe] at hi ⊢
        rw [gv_wipe]
        by_cases h : i ∈ vs
        · rw [if_pos h] at hi
          exact absurd rfl hi
        · rw [if_neg h, if_neg h]
          exact ⟨rfl, rfl⟩
      | inr i =>
        have hi : (if i ∈ vs then getS ρ0 i else none) ≠ none := hi
        show (if i ∈ vs then getS ρ0 i else none) = _ ∧ _
        by_cases h : i ∈ vs
        · rw [if_pos h]
          exact ⟨rfl, rfl⟩
        · rw [if_neg h] at hi
          exact absurd rfl hi
  have lnk : ∀ b, Own (Sum.elim (getS (wipeE ρi vs)) (one (.own (.lst acc)))) (Sum.elim (gv (wipe σ vs)) (onev (.ref D))) b → Own (getS (wipeE ρ0 vs)) (gv (wipe σ vs)) b ∨ H1 b = none := fun b hb => by
    rcases own_sum.mp hb with h | ⟨_, ⟨c, hc⟩, hv⟩
    · exact y.own b h
    · have hv : some (V.ref D) = some (.ref b) := hv
      cases hv
      exact .inr hD
  have big := split.frame y.ok y.stp lnk
  have eq : ∀ i, Sum.elim (getS (restE ρ0 ρi vs)) (tmp [.val (.own (.lst acc))]) i ≠ none → Sum.elim (getS (restE ρ0 ρi vs)) (tmp [.val (.own (.lst acc))]) i = Sum.elim (Sum.elim (getS (wipeE ρi vs)) (one (.own (.lst acc)))) (fun i => if i ∈ vs then getS ρ0 i else none) (match i with
      | .inl i => if i ∈ vs then .inr i else .inl (.inl i)
      | .inr _ => .inl (.inr ())) ∧ Sum.elim (gv σ) (vat [.ref D]) i = Sum.elim (Sum.elim (gv (wipe σ vs)) (onev (.ref D))) (gv σ) (match i with
      | .inl i => if i ∈ vs then .inr i else .inl (.inl i)
      | .inr _ => .inl (.inr ())) := fun i hi => by
    cases i with
    | inl i =>
      show getS (restE ρ0 ρi vs) i = _ ∧ gv σ i = _
      rw [getS_rest y.len]
      by_cases h : i ∈ vs
      · simp only [h, if_true]
        refine ⟨?_, rfl⟩
        show _ = if i ∈ vs then getS ρ0 i else none
        rw [if_pos h]
      · simp only [h, if_false]
        refine ⟨?_, ?_⟩
        · show _ = getS (wipeE ρi vs) i
          rw [getS_wipe, if_neg h]
        · show _ = gv (wipe σ vs) i
          rw [gv_wipe, if_neg h]
    | inr n =>
      cases n with
      | zero => exact ⟨rfl, rfl⟩
      | succ n =>
        have hi : tmp [Rv.val (.own (.lst acc))] (n + 1) ≠ none := hi
        rw [tmp_cons, tmp_nil] at hi
        exact absurd rfl hi
  refine ⟨big.part _ (fun i j hi hj e => ?_) eq, y.stp.imp fun b h => .inl (upw b h), fun b hb => ?_, by rw [restE_length, y.len], rfl, fun i hi => ?_, fun n i h => ?_⟩
  · have z : ∀ n : Nat, Sum.elim (getS (restE ρ0 ρi vs)) (tmp [.val (.own (.lst acc))]) (.inr n) ≠ none → n = 0 := fun n hn => by
      cases n with
      | zero => rfl
      | succ n =>
        have hn : tmp [Rv.val (.own (.lst acc))] (n + 1) ≠ none := hn
        rw [tmp_cons, tmp_nil] at hn
        exact absurd rfl hn
    cases i with
    | inl i => cases j with
      | inl j => by_cases h1 : i ∈ vs <;> by_cases h2 : j ∈ vs <;> simp [h1, h2] at e <;> rw [e]
      | inr m => by_cases h1 : i ∈ vs <;> simp [h1] at e
    | inr n => cases j with
      | inl j => by_cases h2 : j ∈ vs <;> simp [h2] at e
      | inr m => rw [z n hi, z m hj]
  · obtain ⟨i, ⟨c, hc⟩, hv⟩ := hb
    obtain ⟨e1, e2⟩ := eq i (by rw [hc]; exact fun z => nomatch z)
    rw [hc] at e1
    rw [hv] at e2
    rcases own_sum.mp ⟨_, ⟨c, e1.symm⟩, e2.symm⟩ with h | ⟨j, ⟨c', hc'⟩, hv'⟩
    · rcases lnk b h with h | h
      · exact .inl (upw b h)
      · exact .inr h
    · have hc' : (if j ∈ vs then getS ρ0 j else none) = some (.own c') := hc'
      by_cases hj : j ∈ vs
      · rw [if_pos hj] at hc'
        exact .inl ⟨j, ⟨c', hc'⟩, hv'⟩
      · rw [if_neg hj] at hc'
        cases hc'
  · rw [getS_rest y.len]
    by_cases h : i ∈ vs
    · rw [if_pos h]
      exact hi
    · rw [if_neg h]
      exact y.som i h hi
  · cases n with
    | zero => cases h
    | succ n => simp at h

theorem Stp.back {P : Addr → Prop} {F' H' : Hp} (x : Stp P F H F' H') {b : Addr} (h : H' b = none) : P b ∨ H b = none := by
  cases e : H b with
  | none => exact .inr rfl
  | some o =>
    refine .inl ?_
    by_cases p : P b
    · exact p
    · rw [x.keep b o e p] at h
      cases h
/-- the state behind a turn's parts -/
theorem LcSt.next {ρ0 ρi ρ2 ρ5 : Env} {σ2 : St} {vs S : List Nat} {D : Addr} {acc : List PyData} {F' H' F5 H5 : Hp} (y : LcSt K E ρ0 σ vs F1 H1 D ρi acc F H)
    (a : AsgOk K F' (wipeE ρi vs) (wipe σ vs) ρ2 σ2 S) (hq : ∀ i ∈ S, i ∈ vs) (n : Stp (Own (getS (wipeE ρi vs)) (gv (wipe σ vs))) F H F' H') (ok' : SOk K E (Sum.elim (getS ρ2) (one (.own (.lst acc)))) (Sum.elim (gv σ2) (onev (.ref D))) F' H')
    (x : PostL K E ρ2 σ2 F' H' ρ5 [] [] F5 H5) : LcSt K E ρ0 σ vs F1 H1 D ρ5 acc F5 H5 := by
  have gveq : ∀ i, i ∉ vs → gv σ2 i = gv (wipe σ vs) i := fun i hi => by
    have := (a.same i fun h => hi (hq i h)).1
    unfold gv
    rw [this]
  have x0 : ∀ b, Own (getS ρ5) (gv σ2) b → Own (getS ρ2) (gv σ2) b ∨ H' b = none := fun b h => x.lnk b (own_sum.mpr (.inl h))
  have fr := ok'.frame x.st x.stp x0
  have up : ∀ b, Own (getS (wipeE ρi vs)) (gv (wipe σ vs)) b → Own (getS (wipeE ρ0 vs)) (gv (wipe σ vs)) b ∨ H1 b = none := y.own
  have s1 : Stp (Own (getS (wipeE ρ0 vs)) (gv (wipe σ vs))) F1 H1 F' H' := y.stp.trans n up
  have up2 : ∀ b, Own (getS ρ2) (gv σ2) b → Own (getS (wipeE ρ0 vs)) (gv (wipe σ vs)) b ∨ H1 b = none := fun b h => up b (a.own h)
  have w5 : ∀ b, Own (getS (wipeE ρ5 vs)) (gv (wipe σ vs)) b → Own (getS ρ5) (gv σ2) b := fun b ⟨i, ⟨c, hc⟩, hv⟩ => by
    rw [getS_wipe] at hc
    by_cases h : i ∈ vs
    · rw [if_pos h] at hc
      cases hc
    · rw [if_neg h] at hc
      exact ⟨i, ⟨c, hc⟩, by rw [gveq i h, hv]⟩
  refine ⟨fr.part id (fun _ _ _ _ e => e) fun i hi => ?_, s1.trans x.stp up2, fun b hb => ?_, by rw [x.len, a.len, wipeE_length, y.len], fun i hi h => ?_⟩
  · cases i with
    | inr i => exact ⟨rfl, rfl⟩
    | inl i =>
      have hi : getS (wipeE ρ5 vs) i ≠ none := hi
      show getS (wipeE ρ5 vs) i = getS ρ5 i ∧ gv (wipe σ vs) i = gv σ2 i
      rw [getS_wipe] at hi ⊢
      by_cases h : i ∈ vs
      · rw [if_pos h] at hi
        exact absurd rfl hi
      · rw [if_neg h]
        exact ⟨rfl, (gveq i h).symm⟩
  · rcases x0 b (w5 b hb) with h | h
    · exact up2 b h
    · exact s1.back h
  · refine x.som i ?_
    rw [(a.same i fun h => hi (hq i h)).2, getS_wipe, if_neg hi]
    exact y.som i hi h
/-- the element is appended -/
theorem LcSt.push {ρ0 ρi : Env} {vs : List Nat} {D : Addr} {acc : List PyData} {v : V} {d : PyData} (y : LcSt K E ρ0 σ vs F1 H1 D ρi acc F H) (hD : H1 D = none) (r : Rp K F v d) :
    ∃ xs, H D = some (.lst xs) ∧ xs.length = acc.length ∧ LcSt K E ρ0 σ vs F1 H1 D ρi (acc ++ [d]) F (upd H D (.lst (xs ++ [v]))) := by
  obtain ⟨u, hu, a, ea, hn, xs, hx, rx⟩ := y.ok.at_ (.inr ()) (.own (.lst acc)) rfl
  have hu : some (V.ref D) = some u := hu
  cases hu
  cases ea
  have w := y.ok.write (i := Sum.inr ()) (c := .lst acc) (c' := .lst (acc ++ [d])) (a := D) (o := .lst (xs ++ [v])) rfl rfl ⟨_, upd_same, rx.append (.one r)⟩
  refine ⟨xs, hx, rx.length, w.congr (fun i => ?_) fun _ => rfl, ⟨y.stp.ex, fun b o h p => ?_, y.stp.grow⟩, y.own, y.len, y.som⟩
  · cases i with
    | inl i => exact (upS_ne (s := Sum.elim (getS (wipeE ρi vs)) (one (.own (.lst acc)))) (i := Sum.inr ()) (j := Sum.inl i) (fun z => nomatch z)).symm
    | inr i => exact upS_same.symm
  · rw [upd_ne (ne_of_none h hD)]
    exact y.stp.keep b o h p
theorem wipe_get (τ : St) (i : Nat) : ∀ vs : List Nat, (wipe τ vs)[i]? = if i ∈ vs then (if i < τ.length then some none else none) else τ[i]?
  | [] => by
    rw [if_neg (by simp)]
    rfl
  | v :: vs => by
    have ih := wipe_get τ i vs
    show ((wipe τ vs).set v none)[i]? = _
    by_cases h : v = i
    · subst h
      rw [if_pos List.mem_cons_self]
      by_cases hl : v < τ.length
      · rw [if_pos hl, List.getElem?_set_self (by rw [wipe_length]; exact hl)]
      · rw [if_neg hl, List.getElem?_eq_none (by rw [List.length_set, wipe_length]; omega)]
    · rw [List.getElem?_set_ne h, ih]
      by_cases h' : i ∈ vs
      · rw [if_pos h', if_pos (List.mem_cons_of_mem _ h')]
      · rw [if_neg h', if_neg (by simp only [List.mem_cons, not_or]; exact ⟨fun e => h e.symm, h'⟩)]
theorem wipe_set {σ2 : St} {vs : List Nat} (hl : σ2.length = σ.length) (h : ∀ i, i ∉ vs → σ2[i]? = (wipe σ vs)[i]?) : wipe σ2 vs = wipe σ vs := by
  apply List.ext_getElem?
  intro i
  rw [wipe_get, wipe_get]
  by_cases hi : i ∈ vs
  · rw [if_pos hi, if_pos hi, hl]
  · rw [if_neg hi, if_neg hi, h i hi, wipe_get, if_neg hi]
/-- the fold at a turn -/
theorem foldR_nil {α : Type} {gd : Env → Bool} {f : α → PyData → Env → Res α} {a : α} {ρ ρT : Env} {aT : α} (h : foldR gd f [] a ρ = .ok aT ρT) : gd ρ = true ∧ aT = a ∧ ρT = ρ := by
  have h : (if gd ρ then Res.ok a ρ else .bad) = .ok aT ρT := h
  cases hg : gd ρ with
  | false =>
    rw [hg] at h
    cases h
  | true =>
    rw [hg] at h
    cases h
    exact ⟨rfl, rfl, rfl⟩
theorem foldR_cons {α : Type} {gd : Env → Bool} {f : α → PyData → Env → Res α} {d : PyData} {r : List PyData} {a : α} {ρ ρT : Env} {aT : α} (h : foldR gd f (d :: r) a ρ = .ok aT ρT) : gd ρ = true ∧ ∃ a' ρ', f a d ρ = .ok a' ρ' ∧ foldR gd f r a' ρ' = .ok aT ρT := by
  have h : (if gd ρ then (f a d ρ).bind fun a' ρ' => foldR gd f r a' ρ' else .bad) = .ok aT ρT := h
  cases hg : gd ρ with
  | false =>
    rw [hg] at h
    cases h
  | true =>
    rw [hg] at h
    refine ⟨rfl, ?_⟩
    have h : ((f a d ρ).bind fun a' ρ' => foldR gd f r a' ρ') = .ok aT ρT := h
    cases hf : f a d ρ with
    | bad =>
      rw [hf] at h
      cases h
    | exc c fs ρ2 =>
      rw [hf] at h
      cases h
    | ok a' ρ' =>
      rw [hf] at h
      exact ⟨a', ρ', rfl, h⟩
/-- a comprehension's reading -/
theorem lc_read {v : Tgt} {own : List (Str × Nat)} {it : II} {cs : List IE} {e : IE} (hS : ∀ i ∈ namesT v, i ∈ own.map (·.2)) {σ : St} {H : Hp} {Q : VK}
    (h : rdE g ρ (evE p Φ (.lc v (own.map (·.2)) it cs e) ρ) σ H Q) : tLc (rdI g ρ (evI p Φ it ρ)) (tgR g.K v) (uC g.no p Φ cs) (uE g.no p Φ e) (own.map (·.2)) σ H Q := by
  generalize own.map (·.2) = vs at *
  rw [lc_eq] at h
  obtain ⟨F0, i0, w⟩ := h
  refine ⟨F0, i0, ?_⟩
  cases ho : evI p Φ it ρ with
  | bad =>
    rw [ho] at w
    exact w.elim
  | exc c fs ρ1 =>
    rw [ho] at w
    exact w
  | ok q ρ0 =>
    obtain ⟨ds, gd⟩ := q
    rw [ho] at w
    have w : wantE g ρ σ F0 H (match foldR (fun ρ1 => guardOk (wipeE ρ1 vs) ds gd) (lcF p Φ v vs cs e) ds [] (wipeE ρ0 vs) with
      | .ok acc ρ1 => .ok (.val (.own (.lst acc))) (restE ρ0 ρ1 vs)
      | _ => .bad) Q := w
    cases ht : foldR (fun ρ1 => guardOk (wipeE ρ1 vs) ds gd) (lcF p Φ v vs cs e) ds [] (wipeE ρ0 vs) with
    | bad =>
      rw [ht] at w
      exact w.elim
    | exc c fs ρ1 =>
      rw [ht] at w
      exact w.elim
    | ok accT ρT =>
      rw [ht] at w
      refine fun J gv0 F1 H1 x hgv itm D hD => ?_
      have i1 := i0.post x
      -- the guard
      have guard : ∀ {ρi : Env} {acc : List PyData} {F H : Hp}, LcSt g.K g.E ρ0 σ vs F1 H1 D ρi acc F H → guardOk (wipeE ρi vs) ds gd = true → AGv g.K F1 ds gv0 F H := fun {ρi acc F H} y hg => by
        cases gd with
        | none =>
          have e : gv0 = none := hgv
          subst e
          exact y.stp.ex
        | some j =>
          obtain ⟨u, rfl, hu⟩ := hgv
          have hj : j ∉ vs := fun hj => by
            have hg : (match getS (wipeE ρi vs) j with
              | some (.own (.lst es)) => sameAll es ds
              | some (.dat (.list es)) => sameAll es ds
              | _ => false) = true := hg
            rw [getS_wipe, if_pos hj] at hg
            cases hg
          exact guard_dv y.ok.left (by rw [gv_wipe, if_neg hj, hu]) hg
      refine ⟨fun i m H => m = ds.length - i ∧ i ≤ ds.length ∧ ∃ ρi F acc, LcSt g.K g.E ρ0 σ vs F1 H1 D ρi acc F H ∧ foldR (fun ρ1 => guardOk (wipeE ρ1 vs) ds gd) (lcF p Φ v vs cs e) (ds.drop i) acc ρi = .ok accT ρT,
        ⟨ds.length, by simp, Nat.zero_le _, wipeE ρ0 vs, F1, [], LcSt.start x.st hD, ht⟩, ?_⟩
      rintro i m H2 ⟨rfl, hi, ρi, F2, acc, y, hf⟩
      by_cases hlt : i < ds.length
      · rw [List.drop_eq_getElem_cons hlt] at hf
        obtain ⟨hg, acc', ρ', hr, hrest⟩ := foldR_cons hf
        obtain ⟨hgo, hyld⟩ := itm.step F2 H2 i ds[i] y.ok.sub (guard y hg) (List.getElem?_eq_getElem hlt)
        refine .inr ⟨hgo, fun H' => ∃ ρi F acc, LcSt g.K g.E ρ0 σ vs F1 H1 D ρi acc F H' ∧ foldR (fun ρ1 => guardOk (wipeE ρ1 vs) ds gd) (lcF p Φ v vs cs e) (ds.drop (i + 1)) acc ρi = .ok accT ρT, fun H' z => ⟨ds.length - (i + 1), by omega, rfl, hlt, z⟩, fun z H3 hz => ?_⟩
        obtain ⟨F3, nv⟩ := hyld z H3 hz
        unfold lcF at hr
        cases ha : asgT v ds[i] (wipeE ρi vs) with
        | none =>
          rw [ha] at hr
          cases hr
        | some ρ2 =>
          rw [ha] at hr
          have hr : ((evC p Φ cs ρ2).bind fun b ρ3 => if b then (evE p Φ e ρ3).bind fun r ρ4 => (match frz ρ4 r with
            | some (d, ρ5) => if fitN acc.length then .ok (acc ++ [d]) ρ5 else .bad
            | none => .bad) else .ok acc ρ3) = .ok acc' ρ' := hr
          have ok3 := y.ok.newv nv
          have rz : Rp g.K F3 z ds[i] := nv.at_
          have stp3 : Stp (Own (getS (wipeE ρi vs)) (gv (wipe σ vs))) F2 H2 F3 H3 := ⟨nv.exF, fun b o h _ => nv.exH b o h, fun b o h h' => .inl (nv.grow b o h h')⟩
          have ok3' : SOk g.K g.E (Sum.elim (getS (wipeE ρi vs)) (one (.own (.lst acc)))) (Sum.elim (gv (wipe σ vs)) (onev (.ref D))) F3 H3 := ok3.left
          refine tgR_ok (by rw [wipe_length, wipeE_length, y.len, i1.1]) nv.sub rz ha fun σ2 a => ?_
          refine ⟨wipe_set (by rw [a.lenσ, wipe_length]) fun i hi => (a.same i fun h => hi (hS i h)).1, ?_⟩
          have ok4 : SOk g.K g.E (Sum.elim (getS ρ2) (one (.own (.lst acc)))) (Sum.elim (gv σ2) (onev (.ref D))) F3 H3 :=
            ok3'.frame (a.sok ok3'.left) (Stp.refl _ _ _) fun b h => .inl (a.own h)
          have in4 : In g.no ρ2 σ2 F3 H3 := ⟨by rw [a.lenσ, a.len, wipe_length, wipeE_length, y.len, i1.1], ok4.left⟩
          refine ⟨ρ2, F3, in4, ?_⟩
          cases hc : evC p Φ cs ρ2 with
          | bad =>
            rw [hc] at hr
            cases hr
          | exc c fs ρ3 =>
            rw [hc] at hr
            cases hr
          | ok b ρ3 =>
            rw [hc] at hr
            refine fun F4 H4 x4 => ?_
            cases b with
            | false =>
              have hr : Res.ok acc ρ3 = Res.ok acc' ρ' := hr
              cases hr
              exact ⟨ρ', F4, acc, y.next a hS stp3 ok4 x4, hrest⟩
            | true =>
              have hr : ((evE p Φ e ρ3).bind fun r ρ4 => (match frz ρ4 r with
                | some (d, ρ5) => if fitN acc.length then .ok (acc ++ [d]) ρ5 else .bad
                | none => .bad)) = Res.ok acc' ρ' := hr
              refine ⟨ρ3, F4, in4.post x4, ?_⟩
              cases he : evE p Φ e ρ3 with
              | bad =>
                rw [he] at hr
                cases hr
              | exc c fs ρ4 =>
                rw [he] at hr
                cases hr
              | ok r ρ4 =>
                rw [he] at hr
                refine fun u F5 H5 x5 => ?_
                have x45 := x4.seq x5
                have hr : (match frz ρ4 r with
                  | some (d, ρ5) => if fitN acc.length then .ok (acc ++ [d]) ρ5 else .bad
                  | none => .bad) = Res.ok acc' ρ' := hr
                cases hz : frz ρ4 r with
                | none =>
                  rw [hz] at hr
                  cases hr
                | some q =>
                  obtain ⟨d, ρ5⟩ := q
                  rw [hz] at hr
                  have hr : (if fitN acc.length then Res.ok (acc ++ [d]) ρ5 else .bad) = Res.ok acc' ρ' := hr
                  cases hfit : fitN acc.length with
                  | false =>
                    rw [hfit] at hr
                    cases hr
                  | true =>
                    rw [hfit] at hr
                    cases hr
                    obtain ⟨F6, x6, ex6, r6⟩ := x45.frz (frz_get hz)
                    have y6 := y.next a hS stp3 ok4 x6
                    cases r6 with
                    | cons r6 _ =>
                      obtain ⟨xs, hx, hl, y7⟩ := y6.push hD r6
                      exact ⟨xs, hx, by rw [hl]; exact fit_lt hfit, ρ', F6, acc ++ [d], y7, hrest⟩
      · have e : i = ds.length := by omega
        subst e
        rw [List.drop_length] at hf
        obtain ⟨hg, rfl, rfl⟩ := foldR_nil hf
        refine .inl ⟨itm.stop F2 H2 ds.length y.ok.sub (guard y hg) (Nat.le_refl _), ?_⟩
        exact w (.ref D) F2 H2 (x.seq (y.done x.st hD))
/-- [e for v in it if ..] -/
theorem e_lc {elt tg iter : Expr} {ifs : List Expr} {scope : Scope} {own : List (Str × Nat)} {pos : Pos} {v : Tgt} {it : II} {cs : List IE} {e : IE} (hK : g.K = X.K) (hc : X.calm = true) (hN : X.N.Nodup) (ok : BlkOk X.N X.env.scope scope own) (hS : ∀ i ∈ namesT v, i ∈ own.map (·.2))
    (hi : ∀ ρ, PI X tg iter (rdI g ρ (evI p Φ it ρ)))
    (hg : ∀ (s : Shared) (H : Hp) (C : Addr) (cl : List (Str × Addr)) (fp : List Addr), PG (X.blk s H scope (compEnvC scope cl C X.env) fp) tg (tgR g.K v))
    (ht : ∀ (s : Shared) (H : Hp) (C : Addr) (cl : List (Str × Addr)) (fp : List Addr), PTs (X.blk s H scope (compEnvC scope cl C X.env) fp) ifs (uC g.no p Φ cs))
    (he : ∀ (s : Shared) (H : Hp) (C : Addr) (cl : List (Str × Addr)) (fp : List Addr), PE (X.blk s H scope (compEnvC scope cl C X.env) fp) elt (uE g.no p Φ e))
    (hs : ∀ x, foldedSetIterable iter X.env x = pure x) (ρ : Env) : PE X (.ListComp elt [⟨tg, iter, ifs, 0⟩] scope pos) (rdE g ρ (evE p Φ (.lc v (own.map (·.2)) it cs e) ρ)) :=
  pe_imp (pe_lc hc hN (hi ρ) ok hg ht he hs) fun σ H Q h => lc_read hS h
end Mini
/-! Mini, part J: statements: what they leave; the small ones. -/
namespace Mini
open PySem L2
variable {g : Gx} {ρ ρ1 ρ2 ρ3 : Env} {σ σ1 σ2 : St} {F H F1 H1 F2 H2 : Hp} {rs qs : List Rv} {vs us : List V} {X : Cx} {p : Pg} {Φ : Orc}
variable {K : PySem.W.Frag} {E : EP} {B B' : Nat → Bool}

/-- what a statement leaves: the slots that are not B's are not bound again; perhaps a value -/
structure PostS (K : PySem.W.Frag) (E : EP) (B : Nat → Bool) (ρ : Env) (σ : St) (F H : Hp) (ρ' : Env) (σ' : St) (so : Option Sv) (v : V) (F' H' : Hp) : Prop where
  ok : SOk K E (Sum.elim (getS ρ') (fun _ : Unit => so)) (Sum.elim (gv σ') (onev v)) F' H'
  stp : Stp (Own (getS ρ) (gv σ)) F H F' H'
  lnk : ∀ b, Own (Sum.elim (getS ρ') (fun _ : Unit => so)) (Sum.elim (gv σ') (onev v)) b → Own (getS ρ) (gv σ) b ∨ H b = none
  len : ρ'.length = ρ.length
  lenσ : σ'.length = σ.length
  kpt : ∀ i, B i = false → σ'[i]? = σ[i]?
theorem SOk.none1 {v : V} (x : SOk K E (getS ρ) (gv σ) F H) : SOk K E (Sum.elim (getS ρ) (fun _ : Unit => none)) (Sum.elim (gv σ) (onev v)) F H := by
  refine x.part (fun i => match i with
    | .inl i => i
    | .inr _ => 0) (fun i j hi hj e => ?_) fun i hi => ?_
  · cases i with
    | inr i => exact absurd rfl hi
    | inl i => cases j with
      | inr j => exact absurd rfl hj
      | inl j => exact congrArg Sum.inl e
  · cases i with
    | inr i => exact absurd rfl hi
    | inl i => exact ⟨rfl, rfl⟩
theorem own_none1 {v : V} {b : Addr} (h : Own (Sum.elim (getS ρ) (fun _ : Unit => none)) (Sum.elim (gv σ) (onev v)) b) : Own (getS ρ) (gv σ) b := by
  rcases own_sum.mp h with h | ⟨i, ⟨c, hc⟩, _⟩
  · exact h
  · cases hc
theorem PostS.st {so : Option Sv} {v : V} (x : PostS K E B ρ σ F H ρ1 σ1 so v F1 H1) : SOk K E (getS ρ1) (gv σ1) F1 H1 := x.ok.left
/-- without the value -/
theorem PostS.bare {so : Option Sv} {v w : V} (x : PostS K E B ρ σ F H ρ1 σ1 so v F1 H1) : PostS K E B ρ σ F H ρ1 σ1 none w F1 H1 :=
  ⟨x.st.none1, x.stp, fun b h => x.lnk b (own_sum.mpr (.inl (own_none1 h))), x.len, x.lenσ, x.kpt⟩
theorem PostS.refl (x : SOk K E (getS ρ) (gv σ) F H) : PostS K E B ρ σ F H ρ σ none .non F H :=
  ⟨x.none1, Stp.refl _ _ _, fun b h => .inl (own_none1 h), rfl, rfl, fun _ _ => rfl⟩
theorem PostS.trans {so so' : Option Sv} {v w : V} (x : PostS K E B ρ σ F H ρ1 σ1 so v F1 H1) (y : PostS K E B ρ1 σ1 F1 H1 ρ2 σ2 so' w F2 H2) : PostS K E B ρ σ F H ρ2 σ2 so' w F2 H2 := by
  have up : ∀ b, Own (getS ρ1) (gv σ1) b → Own (getS ρ) (gv σ) b ∨ H b = none := fun b h => x.lnk b (own_sum.mpr (.inl h))
  refine ⟨y.ok, x.stp.trans y.stp up, fun b h => ?_, y.len.trans x.len, y.lenσ.trans x.lenσ, fun i h => (y.kpt i h).trans (x.kpt i h)⟩
  rcases y.lnk b h with h | h
  · exact up b h
  · exact x.stp.back h
theorem PostS.wide {so : Option Sv} {v : V} (x : PostS K E B ρ σ F H ρ1 σ1 so v F1 H1) (h : ∀ i, B i = true → B' i = true) : PostS K E B' ρ σ F H ρ1 σ1 so v F1 H1 :=
  ⟨x.ok, x.stp, x.lnk, x.len, x.lenσ, fun i hi => x.kpt i (by
    cases e : B i with
    | false => rfl
    | true =>
      rw [h i e] at hi
      cases hi)⟩
/-- behind an expression -/
theorem PostL.s (x : PostL K E ρ σ F H ρ1 rs vs F1 H1) : PostS K E B ρ σ F H ρ1 σ none .non F1 H1 :=
  ⟨x.st.none1, x.stp, fun b h => x.lnk b (own_sum.mpr (.inl (own_none1 h))), x.len, rfl, fun _ _ => rfl⟩
/-- what is handed over -/
theorem lend_s {ss : List Sv} {ls : List (Option Nat)} {kp : List Bool} (x : PostL K E ρ σ F H ρ1 rs vs F1 H1) (h : lend ρ1 rs kp = some (ss, ρ2, ls)) :
    ∃ F2, SOk K E (Sum.elim (svat ss) (getS ρ2)) (Sum.elim (vat vs) (gv σ)) F2 H1 ∧ Stp (Own (getS ρ) (gv σ)) F H F2 H1 ∧ (∀ b, Own (Sum.elim (svat ss) (getS ρ2)) (Sum.elim (vat vs) (gv σ)) b → Own (getS ρ) (gv σ) b ∨ H b = none) ∧ ρ2.length = ρ.length ∧ ss.length = vs.length := by
  obtain ⟨F2, y, l, n, k, a, d, m, bk⟩ := lend_all x.ok x.vl (fun n i hi => (x.slot n i hi).1) h
  refine ⟨F2, y.ok, x.stp.trans y.stp x.lnk, fun b hb => x.lnk b (y.own b hb), l.trans x.len, n⟩
theorem lend1_s {r : Rv} {v : V} {s : Sv} {l : Option Nat} {k : Bool} (x : PostL K E ρ σ F H ρ1 [r] [v] F1 H1) (h : lend1 ρ1 r k = some (s, ρ2, l)) : ∃ F2, PostS K E B ρ σ F H ρ2 σ (some s) v F2 H1 := by
  have h : lend ρ1 [r] [k] = some ([s], ρ2, [l]) := by
    show (match lend1 ρ1 r k with
      | none => none
      | some (s, ρ1, l) => match lend ρ1 [] [] with
        | none => none
        | some (ss, ρ2, ls) => some (s :: ss, ρ2, l :: ls)) = _
    rw [h] <;> rfl
  obtain ⟨F2, ok, stp, lnk, len, _⟩ := lend_s x h
  have e : ∀ i, Sum.elim (getS ρ2) (fun _ : Unit => some s) i = Sum.elim (svat [s]) (getS ρ2) (match i with
      | .inl i => .inr i
      | .inr _ => .inl 0) ∧ Sum.elim (gv σ) (onev v) i = Sum.elim (vat [v]) (gv σ) (match i with
      | .inl i => .inr i
      | .inr _ => .inl 0) := fun i => by cases i <;> exact ⟨rfl, rfl⟩
  refine ⟨F2, ok.part _ (fun i j _ _ q => ?_) (fun i _ => e i), stp, fun b ⟨i, ⟨c, hc⟩, hv⟩ => lnk b ⟨_, ⟨c, by rw [← (e i).1]; exact hc⟩, by rw [← (e i).2]; exact hv⟩, len, rfl, fun _ _ => rfl⟩
  cases i <;> cases j <;> simp at q <;> first | rfl | rw [q]
/-- a slot takes the value -/
theorem PostS.set {s : Sv} {v : V} {i : Nat} (x : PostS K E B ρ σ F H ρ1 σ1 (some s) v F1 H1) (hl : σ1.length = ρ1.length) (hB : B i = true) : PostS K E B ρ σ F H (ρ1.set i (some s)) (σ1.set i (some v)) none .non F1 H1 := by
  by_cases hi : i < ρ1.length
  · have e : ∀ j, getS (ρ1.set i (some s)) j = Sum.elim (getS ρ1) (fun _ : Unit => some s) (if j = i then .inr () else .inl j) ∧ gv (σ1.set i (some v)) j = Sum.elim (gv σ1) (onev v) (if j = i then .inr () else .inl j) := fun j => by
      by_cases e : j = i
      · subst e
        rw [if_pos rfl]
        refine ⟨getS_set_lt hi, ?_⟩
        unfold gv
        rw [List.getElem?_set_self (by rw [hl]; exact hi)]
        rfl
      · rw [if_neg e]
        refine ⟨getS_set_ne e, ?_⟩
        unfold gv
        rw [List.getElem?_set_ne (fun z => e z.symm)]
        rfl
    refine ⟨SOk.none1 (x.ok.part _ (fun a b _ _ q => ?_) fun j _ => e j), x.stp, fun b hb => ?_, by rw [List.length_set, x.len], by rw [List.length_set, x.lenσ], fun j hj => ?_⟩
    · by_cases ha : a = i <;> by_cases hb : b = i <;> simp [ha, hb] at q ⊢
      exact q
    · obtain ⟨j, ⟨c, hc⟩, hv⟩ := own_none1 hb
      exact x.lnk b ⟨_, ⟨c, by rw [← (e j).1, hc]⟩, by rw [← (e j).2, hv]⟩
    · rw [List.getElem?_set_ne (fun z => by rw [← z, hB] at hj; cases hj)]
      exact x.kpt j hj
  · rw [List.set_eq_of_length_le (by omega), List.set_eq_of_length_le (by omega)]
    exact x.bare
theorem PostS.asg {so : Option Sv} {v : V} {S : List Nat} (x : PostS K E B ρ σ F H ρ1 σ1 so v F1 H1) (a : AsgOk K F1 ρ1 σ1 ρ2 σ2 S) (hS : ∀ i ∈ S, B i = true) : PostS K E B ρ σ F H ρ2 σ2 none .non F1 H1 :=
  ⟨(a.sok x.st).none1, x.stp, fun b h => x.lnk b (own_sum.mpr (.inl (a.own (own_none1 h)))), a.len.trans x.len, a.lenσ.trans x.lenσ, fun i h => (a.same i fun m => by rw [hS i m] at h; cases h).1.trans (x.kpt i h)⟩

/-! ### what is wanted -/
def excS (g : Gx) (B : Nat → Bool) (ρ : Env) (σ : St) (F H : Hp) (c : Nat) (fs : List (Str × PyData)) (ρ' : Env) : Prop :=
  ∀ cls d σ' F' H', PostS g.K g.E B ρ σ F H ρ' σ' none .non F' H' → XcAt g.K g.ca F' H' c fs cls d → g.W cls d σ' H'
def wantS (g : Gx) (B : Nat → Bool) (ρ : Env) (σ : St) (F H : Hp) (o : SRes) (D : Ends) : Prop := match o with
  | .nx ρ' => ∀ σ' F' H', PostS g.K g.E B ρ σ F H ρ' σ' none .non F' H' → D.nx σ' H'
  | .brk ρ' => ∀ σ' F' H', PostS g.K g.E B ρ σ F H ρ' σ' none .non F' H' → D.bk σ' H'
  | .cnt ρ' => ∀ σ' F' H', PostS g.K g.E B ρ σ F H ρ' σ' none .non F' H' → D.ct σ' H'
  | .ret s ρ' => ∀ v σ' F' H', PostS g.K g.E B ρ σ F H ρ' σ' (some s) v F' H' → D.rt v H'
  | .exc c fs ρ' => excS g B ρ σ F H c fs ρ'
  | .bad => False
def rdS (g : Gx) (B : Nat → Bool) (ρ : Env) (o : SRes) : TS := fun D σ H => ∃ F, In g ρ σ F H ∧ wantS g B ρ σ F H o D
theorem In.postS {so : Option Sv} {v : V} (i : In g ρ σ F H) (x : PostS g.K g.E B ρ σ F H ρ1 σ1 so v F1 H1) : In g ρ1 σ1 F1 H1 := ⟨by rw [x.lenσ, x.len]; exact i.1, x.st⟩
theorem excS.back {c : Nat} {fs : List (Str × PyData)} {so : Option Sv} {v : V} (w : excS g B ρ σ F H c fs ρ2) (x : PostS g.K g.E B ρ σ F H ρ1 σ1 so v F1 H1) : excS g B ρ1 σ1 F1 H1 c fs ρ2 := fun cls d σ' F' H' y z => w cls d σ' F' H' (x.trans y) z
theorem wantS.back {o : SRes} {D : Ends} {so : Option Sv} {v : V} (w : wantS g B ρ σ F H o D) (x : PostS g.K g.E B ρ σ F H ρ1 σ1 so v F1 H1) : wantS g B ρ1 σ1 F1 H1 o D := by
  cases o with
  | nx ρ' => exact fun σ' F' H' y => w σ' F' H' (x.trans y)
  | brk ρ' => exact fun σ' F' H' y => w σ' F' H' (x.trans y)
  | cnt ρ' => exact fun σ' F' H' y => w σ' F' H' (x.trans y)
  | ret s ρ' => exact fun v σ' F' H' y => w v σ' F' H' (x.trans y)
  | exc c fs ρ' => exact excS.back w x
  | bad => exact w
theorem wantS.wide {o : SRes} {D : Ends} (w : wantS g B' ρ σ F H o D) (h : ∀ i, B i = true → B' i = true) : wantS g B ρ σ F H o D := by
  cases o with
  | nx ρ' => exact fun σ' F' H' y => w σ' F' H' (y.wide h)
  | brk ρ' => exact fun σ' F' H' y => w σ' F' H' (y.wide h)
  | cnt ρ' => exact fun σ' F' H' y => w σ' F' H' (y.wide h)
  | ret s ρ' => exact fun v σ' F' H' y => w v σ' F' H' (y.wide h)
  | exc c fs ρ' => exact fun cls d σ' F' H' y z => w cls d σ' F' H' (y.wide h) z
  | bad => exact w
theorem exc_sl {c : Nat} {fs : List (Str × PyData)} (w : excS g B ρ σ F H c fs ρ1) : excOk g ρ σ F H c fs ρ1 := fun cls d F' H' y z => w cls d σ F' H' y.s z
/-- an expression, then an end -/
theorem rs1 {o : Res Rv} {f : Rv → Env → SRes} {D : Ends} {R : VK} (h : rdS g B ρ (o.st f) D σ H)
    (k : ∀ F r ρ1 v F1 H1, In g ρ σ F H → PostL g.K g.E ρ σ F H ρ1 [r] [v] F1 H1 → wantS g B ρ σ F H (f r ρ1) D → R v H1) : rdE g ρ o σ H R := by
  obtain ⟨F, i, w⟩ := h
  refine ⟨F, i, ?_⟩
  cases o with
  | ok r ρ1 => exact fun v F1 H1 x => k F r ρ1 v F1 H1 i x w
  | exc c fs ρ1 => exact exc_sl w
  | bad => exact w
theorem rs1A {o : Res (List Rv)} {f : List Rv → Env → SRes} {D : Ends} {R : List V → Hp → Prop} (h : rdS g B ρ (o.st f) D σ H)
    (k : ∀ F rs ρ1 vs F1 H1, In g ρ σ F H → PostL g.K g.E ρ σ F H ρ1 rs vs F1 H1 → wantS g B ρ σ F H (f rs ρ1) D → R vs H1) : rdA g ρ o σ H R := by
  obtain ⟨F, i, w⟩ := h
  refine ⟨F, i, ?_⟩
  cases o with
  | ok r ρ1 => exact fun v F1 H1 x => k F r ρ1 v F1 H1 i x w
  | exc c fs ρ1 => exact exc_sl w
  | bad => exact w

/-! ### blocks -/
theorem ss_nil (np : Nat) (ρ : Env) : PSs X [] (rdS g B ρ (evSs p Φ np [] ρ)) := by
  refine pss_imp pss_nil fun D σ H h => ?_
  obtain ⟨F, i, w⟩ := h
  unfold evSs at w
  exact w σ F H (PostS.refl i.2)
theorem seq_back {o : SRes} {f : Env → SRes} {D : Ends} (w : wantS g B ρ σ F H (o.seq f) D) : wantS g B ρ σ F H o { D with nx := fun σ' H' => ∃ ρ' F', o = .nx ρ' ∧ PostS g.K g.E B ρ σ F H ρ' σ' none .non F' H' ∧ wantS g B ρ σ F H (f ρ') D } := by
  cases o with
  | nx ρ' => exact fun σ' F' H' y => ⟨ρ', F', rfl, y, w⟩
  | brk ρ' => exact w
  | cnt ρ' => exact w
  | ret s ρ' => exact w
  | exc c fs ρ' => exact w
  | bad => exact w
theorem ss_cons {np : Nat} {st : Stmt} {rest : List Stmt} {is : IS} {iss : List IS} (h1 : ∀ ρ, PS X st (rdS g B ρ (evS p Φ np is ρ))) (h2 : ∀ ρ, PSs X rest (rdS g B ρ (evSs p Φ np iss ρ))) (ρ : Env) :
    PSs X (st :: rest) (rdS g B ρ (evSs p Φ np (is :: iss) ρ)) := by
  have go : ∀ ρ', (evS p Φ np is ρ = .nx ρ' ∨ ∀ ρ'', evS p Φ np is ρ ≠ .nx ρ'') → PSs X (st :: rest) (rdS g B ρ (evSs p Φ np (is :: iss) ρ)) := fun ρ' hρ => by
    refine pss_imp (pss_cons (h1 ρ) (h2 ρ')) fun D σ H h => ?_
    obtain ⟨F, i, w⟩ := h
    unfold evSs at w
    refine ⟨F, i, ?_⟩
    have w := seq_back w
    cases ho : evS p Φ np is ρ with
    | nx ρ1 =>
      rw [ho] at w
      rcases hρ with hρ | hρ
      · rw [ho] at hρ
        cases hρ
        exact fun σ' F' H' y => by
          obtain ⟨ρ', F2, e, y2, w2⟩ := w σ' F' H' y
          cases e
          exact ⟨F2, i.postS y2, w2.back y2⟩
      · exact absurd ho (hρ ρ1)
    | brk ρ1 =>
      rw [ho] at w
      exact w
    | cnt ρ1 =>
      rw [ho] at w
      exact w
    | ret s ρ1 =>
      rw [ho] at w
      exact w
    | exc c fs ρ1 =>
      rw [ho] at w
      exact w
    | bad =>
      rw [ho] at w
      exact w
  cases ho : evS p Φ np is ρ with
  | nx ρ1 => exact go ρ1 (.inl ho)
  | brk ρ1 => exact go ρ (.inr fun ρ'' e => by rw [ho] at e; cases e)
  | cnt ρ1 => exact go ρ (.inr fun ρ'' e => by rw [ho] at e; cases e)
  | ret s ρ1 => exact go ρ (.inr fun ρ'' e => by rw [ho] at e; cases e)
  | exc c fs ρ1 => exact go ρ (.inr fun ρ'' e => by rw [ho] at e; cases e)
  | bad => exact go ρ (.inr fun ρ'' e => by rw [ho] at e; cases e)

/-! ### small statements -/
theorem s_pass {np : Nat} {pos : Pos} (ρ : Env) : PS X (.Pass pos) (rdS g B ρ (evS p Φ np .pass ρ)) := by
  refine ps_imp ps_pass fun D σ H h => ?_
  obtain ⟨F, i, w⟩ := h
  unfold evS at w
  exact w σ F H (PostS.refl i.2)
theorem s_brk {np : Nat} {pos : Pos} (ρ : Env) : PS X (.Break pos) (rdS g B ρ (evS p Φ np .brk ρ)) := by
  refine ps_imp ps_break fun D σ H h => ?_
  obtain ⟨F, i, w⟩ := h
  unfold evS at w
  exact w σ F H (PostS.refl i.2)
theorem s_cnt {np : Nat} {pos : Pos} (ρ : Env) : PS X (.Continue pos) (rdS g B ρ (evS p Φ np .cnt ρ)) := by
  refine ps_imp ps_continue fun D σ H h => ?_
  obtain ⟨F, i, w⟩ := h
  unfold evS at w
  exact w σ F H (PostS.refl i.2)
theorem s_retN {np : Nat} {pos : Pos} (ρ : Env) : PS X (.Return none pos) (rdS g B ρ (evS p Φ np .retN ρ)) := by
  refine ps_imp ps_retN fun D σ H h => ?_
  obtain ⟨F, i, w⟩ := h
  unfold evS at w
  have x := (PostL.refl i.2).new (.same i.2.sub (d := .none) .non)
  obtain ⟨F2, y⟩ := lend1_s (B := B) (k := false) (ρ2 := ρ) (s := .dat .none) (l := none) x rfl
  exact w .non σ F2 H y
theorem s_expr {np : Nat} {e : Expr} {ie : IE} {pos : Pos} (he : ∀ ρ, PE X e (rdE g ρ (evE p Φ ie ρ))) (hs : swapsWith e none pos.line X.env = pure false) (ρ : Env) : PS X (.Expr e pos) (rdS g B ρ (evS p Φ np (.expr ie) ρ)) := by
  refine ps_imp (ps_expr (he ρ) hs) fun D σ H h => ?_
  unfold evS at h
  exact rs1 h fun F r ρ1 v F1 H1 i x w => w σ F1 H1 x.s
theorem s_ret {np : Nat} {e : Expr} {ie : IE} {pos : Pos} (he : ∀ ρ, PE X e (rdE g ρ (evE p Φ ie ρ))) (ρ : Env) : PS X (.Return (some e) pos) (rdS g B ρ (evS p Φ np (.ret ie) ρ)) := by
  refine ps_imp (ps_ret (he ρ)) fun D σ H h => ?_
  unfold evS at h
  refine rs1 h fun F r ρ1 v F1 H1 i x w => ?_
  unfold retV at w
  cases e : lend1 ρ1 r (isLoc np r) with
  | none =>
    rw [e] at w
    exact w.elim
  | some q =>
    obtain ⟨s, ρ2, l⟩ := q
    rw [e] at w
    obtain ⟨F2, y⟩ := lend1_s (B := B) x e
    exact w v σ F2 H1 y
theorem s_set {np i : Nat} {x : Str} {e : Expr} {ie : IE} {pos pos' : Pos} (hN : X.N.Nodup) (hi : X.N[i]? = some x) (hx : Loc X.env.scope x) (he : ∀ ρ, PE X e (rdE g ρ (evE p Φ ie ρ))) (hB : B i = true) (hs : swapsWith e (some (.Name x pos')) pos.line X.env = pure false) (hf : X.fn x = true ∨ X.env.scope.names.lookup x = some .local) (ρ : Env) :
    PS X (.Assign [.Name x pos'] e pos) (rdS g B ρ (evS p Φ np (.asg (.name i) ie) ρ)) := by
  refine ps_imp (ps_set hN hi hx (he ρ) hs hf) fun D σ H h => ?_
  unfold evS at h
  refine rs1 h fun F r ρ1 v F1 H1 ii x w => ?_
  have w : wantS g B ρ σ F H (nxO (setV ρ1 i r)) D := w
  unfold setV at w
  cases e : lend1 ρ1 r false with
  | none =>
    rw [e] at w
    exact w.elim
  | some q =>
    obtain ⟨s, ρ2, l⟩ := q
    rw [e] at w
    obtain ⟨F2, y⟩ := lend1_s (B := B) x e
    exact w _ F2 H1 (y.set (by rw [y.len]; exact ii.1) hB)
theorem s_asgT {np : Nat} {tg e : Expr} {ts : List Tgt} {ie : IE} {pos : Pos} (hK : g.K = X.K) (he : ∀ ρ, PE X e (rdE g ρ (evE p Φ ie ρ))) (hg : PG X tg (tgR X.K (.tup ts))) (hB : ∀ i ∈ namesTs ts, B i = true)
    (hs : swapsWithSole [tg] e pos.line X.env = pure false) (hw : swappedStores [tg] e X.env = pure none) (h1 : (assignEach [tg] X.env).map (·.2) = [assign tg X.env]) (ρ : Env) :
    PS X (.Assign [tg] e pos) (rdS g B ρ (evS p Φ np (.asg (.tup ts) ie) ρ)) := by
  refine ps_imp (ps_asg (he ρ) hg hs hw h1) fun D σ H h => ?_
  unfold evS at h
  refine rs1 h fun F r ρ1 v F1 H1 ii x w => ?_
  have w : wantS g B ρ σ F H (nxO ((r.data ρ1).bind fun d => match d with
    | .tuple ds => asgTs ts ds ρ1
    | _ => none)) D := w
  cases e1 : r.data ρ1 with
  | none =>
    rw [e1] at w
    exact w.elim
  | some d =>
    rw [e1] at w
    cases d with
    | tuple ds =>
      have w : wantS g B ρ σ F H (nxO (asgTs ts ds ρ1)) D := w
      cases e2 : asgTs ts ds ρ1 with
      | none =>
        rw [e2] at w
        exact w.elim
      | some ρ2 =>
        rw [e2] at w
        have dv := x.data1 0 rfl rfl e1
        have r1 : Rp g.K F1 v (.tuple ds) := by
          rcases dv with h | ⟨a, c, rfl, _, e⟩
          · exact h
          · cases c <;> cases e
        rw [← hK]
        refine tgR_ok (t := .tup ts) (by rw [x.len]; exact ii.1) x.ok.sub r1 e2 fun σ' a => ?_
        exact w σ' F1 H1 ((x.s (B := B)).asg a hB)
    | _ => exact w.elim
theorem s_aug {np i : Nat} {x : Str} {e : Expr} {ie : IE} {o : BOp} {op : Operator} {pos pos' : Pos} (hN : X.N.Nodup) (hi : X.N[i]? = some x) (hx : Loc X.env.scope x) (he : ∀ ρ, PE X e (rdE g ρ (evE p Φ ie ρ))) (ho : PIp X op (rBin g.K fun d e => (augV o d e).map Sv.dat)) (hB : B i = true) (hf : X.fn x = true ∨ X.env.scope.names.lookup x = some .local) (ρ : Env) :
    PS X (.AugAssign (.Name x pos') op e pos) (rdS g B ρ (evS p Φ np (.aug i o ie) ρ)) := by
  refine ps_imp (ps_aug hN hi hx (he ρ) ho hf) fun D σ H h => ?_
  unfold evS at h
  obtain ⟨F0, i0, w0⟩ := h
  cases e0 : getS ρ i with
  | none =>
    rw [e0] at w0
    exact w0.elim
  | some s =>
    cases s with
    | own c =>
      rw [e0] at w0
      exact w0.elim
    | exc c fs =>
      rw [e0] at w0
      exact w0.elim
    | glt ds =>
      rw [e0] at w0
      exact w0.elim
    | dat d =>
      rw [e0] at w0
      obtain ⟨u, h1, h2, q0⟩ := in_at i0 e0
      refine ⟨u, h1, ?_⟩
      have w0 : wantS g B ρ σ F0 H ((evE p Φ ie ρ).st fun r ρ => nxO ((r.data ρ).bind fun y => (augV o d y).map fun d => ρ.set i (some (.dat d)))) D := w0
      refine ⟨F0, i0, ?_⟩
      cases he : evE p Φ ie ρ with
      | bad =>
        rw [he] at w0
        exact w0
      | exc c fs ρ1 =>
        rw [he] at w0
        exact exc_sl w0
      | ok r ρ1 =>
        rw [he] at w0
        refine fun v F1 H1 y => ?_
        have w : wantS g B ρ σ F0 H (nxO ((r.data ρ1).bind fun y => (augV o d y).map fun d => ρ1.set i (some (.dat d)))) D := w0
        cases e1 : r.data ρ1 with
        | none =>
          rw [e1] at w
          exact w.elim
        | some d2 =>
          rw [e1] at w
          have w : wantS g B ρ σ F0 H (nxO ((augV o d d2).map fun d => ρ1.set i (some (.dat d)))) D := w
          cases e2 : augV o d d2 with
          | none =>
            rw [e2] at w
            exact w.elim
          | some d3 =>
            rw [e2] at w
            refine ⟨F1, d, d2, .dat d3, y.ok.sub, .inl (Rp.mono y.stp.ex q0), y.data1 0 rfl rfl e1, (by show (augV o d d2).map Sv.dat = _; rw [e2]; rfl), fun w' F' H' n => ?_⟩
            obtain ⟨F2, z⟩ := lend1_s (B := B) (k := false) (ρ2 := ρ1) (s := .dat d3) (l := none) (y.new n) rfl
            exact w _ F2 H' (z.set (by rw [z.len]; exact i0.1) hB)
end Mini
/-! Mini, part K: if, for, while, raise, several targets, stores to places. -/
namespace Mini
open PySem L2
variable {g : Gx} {ρ ρ1 ρ2 ρ3 : Env} {σ σ1 σ2 : St} {F H F1 H1 F2 H2 : Hp} {rs qs : List Rv} {vs us : List V} {X : Cx} {p : Pg} {Φ : Orc}
variable {K : PySem.W.Frag} {E : EP} {B B' : Nat → Bool} {np : Nat}

/-- a block, from whatever slots -/
def uS (g : Gx) (B : Nat → Bool) (f : Env → SRes) : TS := fun D σ H => ∃ ρ, rdS g B ρ (f ρ) D σ H
theorem pss_u {sts : List Stmt} {f : Env → SRes} (h : ∀ ρ, PSs X sts (rdS g B ρ (f ρ))) : PSs X sts (uS g B f) := ⟨fun pins s σ H D I ⟨ρ, q⟩ => (h ρ).run pins s σ H D I q⟩
theorem s_if {c : Expr} {a b : List Stmt} {ic : IE} {ia ib : List IS} {pos : Pos} (hc : ∀ ρ, PT X c (rdT g ρ (evT p Φ ic ρ))) (ha : ∀ ρ, PSs X a (rdS g B ρ (evSs p Φ np ia ρ))) (hb : ∀ ρ, PSs X b (rdS g B ρ (evSs p Φ np ib ρ))) (ρ : Env) :
    PS X (.If c a b pos) (rdS g B ρ (evS p Φ np (.ifs ic ia ib) ρ)) := by
  refine ps_imp (ps_if (hc ρ) (pss_u ha) (pss_u hb)) fun D σ H h => ?_
  obtain ⟨F, i, w⟩ := h
  unfold evS at w
  have w : wantS g B ρ σ F H ((evT p Φ ic ρ).st fun b ρ => if b = true then evSs p Φ np ia ρ else evSs p Φ np ib ρ) D := w
  refine ⟨F, i, ?_⟩
  cases ho : evT p Φ ic ρ with
  | bad =>
    rw [ho] at w
    exact w
  | exc c fs ρ1 =>
    rw [ho] at w
    exact exc_sl w
  | ok t ρ1 =>
    rw [ho] at w
    refine fun F1 H1 x => ?_
    cases t with
    | true => exact ⟨ρ1, F1, i.post x, wantS.back w x.s⟩
    | false => exact ⟨ρ1, F1, i.post x, wantS.back w x.s⟩

/-! ### several targets -/
theorem getS_many : ∀ {is : List Nat} {ss : List Sv} {ρ : Env}, is.Nodup → is.length = ss.length → (setMany ρ is ss).length = ρ.length ∧ (∀ (i n : Nat), is[n]? = some i → i < ρ.length → getS (setMany ρ is ss) i = ss[n]?) ∧ ∀ i, i ∉ is → getS (setMany ρ is ss) i = getS ρ i
  | [], [], ρ, _, _ => ⟨rfl, fun i n h => (by simp at h), fun _ _ => rfl⟩
  | [], _ :: _, _, _, h => by cases h
  | _ :: _, [], _, _, h => by cases h
  | i :: is, s :: ss, ρ, nd, hl => by
    obtain ⟨nd1, nd2⟩ := List.nodup_cons.mp nd
    obtain ⟨h1, h2, h3⟩ := getS_many (ρ := ρ.set i (some s)) nd2 (by simpa using hl)
    have e : setMany ρ (i :: is) (s :: ss) = setMany (ρ.set i (some s)) is ss := rfl
    rw [e]
    refine ⟨by rw [h1, List.length_set], fun j n hj hlt => ?_, fun j hj => ?_⟩
    · cases n with
      | zero =>
        have hj : some i = some j := hj
        cases hj
        rw [h3 i nd1, getS_set_lt hlt]
        rfl
      | succ n =>
        rw [h2 j n (by simpa using hj) (by rw [List.length_set]; exact hlt)]
        rfl
    · obtain ⟨n1, n2⟩ := not_or.mp (by rwa [List.mem_cons] at hj)
      rw [h3 j n2, getS_set_ne n1]
def setManyV (σ : St) : List Nat → List V → St
  | i :: is, v :: vs => setManyV (σ.set i (some v)) is vs
  | _, _ => σ
theorem gv_many : ∀ {is : List Nat} {vs : List V} {σ : St}, is.Nodup → is.length = vs.length → (setManyV σ is vs).length = σ.length ∧ (∀ (i n : Nat), is[n]? = some i → i < σ.length → gv (setManyV σ is vs) i = vs[n]?) ∧ ∀ i, i ∉ is → (setManyV σ is vs)[i]? = σ[i]?
  | [], [], σ, _, _ => ⟨rfl, fun i n h => (by simp at h), fun _ _ => rfl⟩
  | [], _ :: _, _, _, h => by cases h
  | _ :: _, [], _, _, h => by cases h
  | i :: is, v :: vs, σ, nd, hl => by
    obtain ⟨nd1, nd2⟩ := List.nodup_cons.mp nd
    obtain ⟨h1, h2, h3⟩ := gv_many (σ := σ.set i (some v)) nd2 (by simpa using hl)
    have e : setManyV σ (i :: is) (v :: vs) = setManyV (σ.set i (some v)) is vs := rfl
    rw [e]
    refine ⟨by rw [h1, List.length_set], fun j n hj hlt => ?_, fun j hj => ?_⟩
    · cases n with
      | zero =>
        have hj : some i = some j := hj
        cases hj
        unfold gv
        rw [h3 i nd1, List.getElem?_set_self hlt]
        rfl
      | succ n =>
        rw [h2 j n (by simpa using hj) (by rw [List.length_set]; exact hlt)]
        rfl
    · obtain ⟨n1, n2⟩ := not_or.mp (by rwa [List.mem_cons] at hj)
      rw [h3 j n2, List.getElem?_set_ne (fun e => n1 e.symm)]
theorem many_post {is : List Nat} {ss : List Sv} {ls : List (Option Nat)} (ii : In g ρ σ F H) (x : PostL g.K g.E ρ σ F H ρ1 rs vs F1 H1) (h : lend ρ1 rs [] = some (ss, ρ2, ls)) (nd : is.Nodup) (hl : is.length = ss.length) (hB : ∀ i ∈ is, B i = true) :
    is.length = vs.length ∧ ∃ F2, PostS g.K g.E B ρ σ F H (setMany ρ2 is ss) (setManyV σ is vs) none .non F2 H1 := by
  obtain ⟨F2, ok, stp, lnk, len, hv⟩ := lend_s x h
  have hl2 : is.length = vs.length := hl.trans hv
  obtain ⟨a1, a2, a3⟩ := getS_many (ρ := ρ2) nd hl
  obtain ⟨b1, b2, b3⟩ := gv_many (σ := σ) nd hl2
  have lσ : σ.length = ρ2.length := by rw [len]; exact ii.1
  refine ⟨hl2, F2, ?_⟩
  let f : Nat → Nat ⊕ Nat := fun i => if i ∈ is ∧ i < ρ2.length then .inl (is.idxOf i) else .inr i
  have idx : ∀ i, i ∈ is → is[is.idxOf i]? = some i := fun i hi => by
    rw [List.getElem?_eq_getElem (List.idxOf_lt_length_of_mem hi), List.getElem_idxOf]
  have e : ∀ i, getS (setMany ρ2 is ss) i ≠ none → getS (setMany ρ2 is ss) i = Sum.elim (svat ss) (getS ρ2) (f i) ∧ gv (setManyV σ is vs) i = Sum.elim (vat vs) (gv σ) (f i) := fun i hi => by
    by_cases hm : i ∈ is
    · by_cases hlt : i < ρ2.length
      · have ef : f i = .inl (is.idxOf i) := if_pos ⟨hm, hlt⟩
        rw [ef]
        exact ⟨a2 i _ (idx i hm) hlt, b2 i _ (idx i hm) (by rw [lσ]; exact hlt)⟩
      · exact absurd (getS_ge (by rw [a1]; omega)) hi
    · have ef : f i = .inr i := if_neg fun z => hm z.1
      rw [ef]
      refine ⟨a3 i hm, ?_⟩
      unfold gv
      rw [b3 i hm]
      rfl
  refine ⟨SOk.none1 (ok.part f (fun i j hi hj q => ?_) e), stp, fun b hb => ?_, by rw [a1, len], b1, fun i hi => b3 i fun hm => by rw [hB i hm] at hi; cases hi⟩
  · by_cases h1 : i ∈ is ∧ i < ρ2.length
    · have e1 : f i = .inl (is.idxOf i) := if_pos h1
      by_cases h2 : j ∈ is ∧ j < ρ2.length
      · have e2 : f j = .inl (is.idxOf j) := if_pos h2
        rw [e1, e2] at q
        have q : is.idxOf i = is.idxOf j := Sum.inl.inj q
        have := idx i h1.1
        rw [q, idx j h2.1] at this
        cases this
        rfl
      · have e2 : f j = .inr j := if_neg h2
        rw [e1, e2] at q
        cases q
    · have e1 : f i = .inr i := if_neg h1
      by_cases h2 : j ∈ is ∧ j < ρ2.length
      · have e2 : f j = .inl (is.idxOf j) := if_pos h2
        rw [e1, e2] at q
        cases q
      · have e2 : f j = .inr j := if_neg h2
        rw [e1, e2] at q
        exact Sum.inr.inj q
  · obtain ⟨i, ⟨c, hc⟩, hv'⟩ := own_none1 hb
    obtain ⟨e1, e2⟩ := e i (by rw [hc]; exact fun z => nomatch z)
    exact lnk b ⟨f i, ⟨c, by rw [← e1, hc]⟩, by rw [← e2, hv']⟩
theorem par_read {is : List Nat} {ies : List IE} {D : Ends} (hB : ∀ i ∈ is, B i = true) (h : rdS g B ρ (evS p Φ np (.par is ies) ρ) D σ H) :
    rdA g ρ (evEs p Φ ies ρ) σ H (fun vs H1 => is.length = vs.length ∧ D.nx (setManyV σ is vs) H1) := by
  unfold evS at h
  refine rs1A h fun F rs ρ1 vs F1 H1 ii x w => ?_
  cases e : lend ρ1 rs [] with
  | none =>
    rw [e] at w
    exact w.elim
  | some q =>
    obtain ⟨ss, ρ2, ls⟩ := q
    rw [e] at w
    have w : wantS g B ρ σ F H (nxO (if (decide is.Nodup && decide (is.length = ss.length)) = true then some (setMany ρ2 is ss) else none)) D := w
    cases hd : (decide is.Nodup && decide (is.length = ss.length)) with
    | false =>
      rw [hd] at w
      exact w.elim
    | true =>
      rw [hd] at w
      obtain ⟨nd, hl⟩ := Bool.and_eq_true_iff.mp hd
      obtain ⟨hl2, F2, y⟩ := many_post (B := B) ii x e (of_decide_eq_true nd) (of_decide_eq_true hl) hB
      exact ⟨hl2, w _ F2 H1 y⟩
/-- a, b = x, y, local names -/
theorem s_par2 {i j : Nat} {x y : Str} {a b : Expr} {ies : List IE} {px py pt pos : Pos} {kt k2 : Nat} {pt2 : Pos} (hc : X.calm = true) (hN : X.N.Nodup) (hi : X.N[i]? = some x) (hj : X.N[j]? = some y) (hij : i ≠ j)
    (hx : X.env.scope.names.lookup x = some .local) (hy : X.env.scope.names.lookup y = some .local) (ha : ∀ ρ, PA X [a, b] (rdA g ρ (evEs p Φ ies ρ))) (hB : ∀ k ∈ [i, j], B k = true)
    (hw : swappedStores [.Tuple [.Name x px, .Name y py] kt pt] (.Tuple [a, b] k2 pt2) X.env = pure (some [x, y]))
    (hs : swapsWithSole [.Tuple [.Name x px, .Name y py] kt pt] (.Tuple [a, b] k2 pt2) pos.line X.env = pure false) (ρ : Env) :
    PS X (.Assign [.Tuple [.Name x px, .Name y py] kt pt] (.Tuple [a, b] k2 pt2) pos) (rdS g B ρ (evS p Φ np (.par [i, j] ies) ρ)) := by
  refine ps_imp (ps_par hc hN hi hj hij hx hy (ha ρ) hw hs) fun D σ H h => ?_
  have h := par_read hB h
  obtain ⟨F, ii, w⟩ := h
  refine ⟨F, ii, ?_⟩
  cases ho : evEs p Φ ies ρ with
  | bad =>
    rw [ho] at w
    exact w
  | exc c fs ρ1 =>
    rw [ho] at w
    exact w
  | ok rs ρ1 =>
    rw [ho] at w
    refine fun vs F1 H1 z => ?_
    obtain ⟨hl, q⟩ := w vs F1 H1 z
    match vs, hl, q with
    | [v1, v2], _, q => exact ⟨v1, v2, rfl, q⟩
theorem s_par3 {i j l : Nat} {x y z : Str} {a b c : Expr} {ies : List IE} {px py pz pt pos : Pos} {kt k2 : Nat} {pt2 : Pos} (hc : X.calm = true) (hN : X.N.Nodup) (hi : X.N[i]? = some x) (hj : X.N[j]? = some y) (hl : X.N[l]? = some z) (hij : i ≠ j) (hil : i ≠ l) (hjl : j ≠ l)
    (hx : X.env.scope.names.lookup x = some .local) (hy : X.env.scope.names.lookup y = some .local) (hz : X.env.scope.names.lookup z = some .local) (ha : ∀ ρ, PA X [a, b, c] (rdA g ρ (evEs p Φ ies ρ))) (hB : ∀ k ∈ [i, j, l], B k = true)
    (hw : swappedStores [.Tuple [.Name x px, .Name y py, .Name z pz] kt pt] (.Tuple [a, b, c] k2 pt2) X.env = pure (some [x, y, z]))
    (hs : swapsWithSole [.Tuple [.Name x px, .Name y py, .Name z pz] kt pt] (.Tuple [a, b, c] k2 pt2) pos.line X.env = pure false) (ρ : Env) :
    PS X (.Assign [.Tuple [.Name x px, .Name y py, .Name z pz] kt pt] (.Tuple [a, b, c] k2 pt2) pos) (rdS g B ρ (evS p Φ np (.par [i, j, l] ies) ρ)) := by
  refine ps_imp (ps_par3 hc hN hi hj hl hij hil hjl hx hy hz (ha ρ) hw hs) fun D σ H h => ?_
  have h := par_read hB h
  obtain ⟨F, ii, w⟩ := h
  refine ⟨F, ii, ?_⟩
  cases ho : evEs p Φ ies ρ with
  | bad =>
    rw [ho] at w
    exact w
  | exc c fs ρ1 =>
    rw [ho] at w
    exact w
  | ok rs ρ1 =>
    rw [ho] at w
    refine fun vs F1 H1 z => ?_
    obtain ⟨hl, q⟩ := w vs F1 H1 z
    match vs, hl, q with
    | [v1, v2, v3], _, q => exact ⟨v1, v2, v3, rfl, q⟩
/-- targets that are names -/
theorem gs_many : ∀ {is : List Nat} {vs : List V} {σ : St} {H : Hp} {Q : St → Hp → Prop}, is.length = vs.length → Q (setManyV σ is vs) H → tgsR K (is.map Tgt.name) vs σ H Q
  | [], [], σ, H, Q, _, q => ⟨rfl, q⟩
  | [], _ :: _, _, _, _, h, _ => by cases h
  | _ :: _, [], _, _, _, h, _ => by cases h
  | i :: is, v :: vs, σ, H, Q, h, q => ⟨v, vs, rfl, gs_many (is := is) (vs := vs) (σ := σ.set i (some v)) (by simpa using h) q⟩
theorem PostS.more {so : Option Sv} {v : V} {q : Addr} {o : HO} (x : PostS K E B ρ σ F H ρ1 σ1 so v F1 H1) (hq : H1 q = none) : PostS K E B ρ σ F H ρ1 σ1 so v F1 (upd H1 q o) := by
  have ex : Ex H1 (upd H1 q o) := ex_upd hq
  refine ⟨⟨x.ok.sub.trans ex, fun i y hy => ?_, x.ok.inj⟩, ⟨x.stp.ex, fun b u h n => ex b u (x.stp.keep b u h n), x.stp.grow⟩, x.lnk, x.len, x.lenσ, x.kpt⟩
  obtain ⟨u, hu, s⟩ := x.ok.at_ i y hy
  refine ⟨u, hu, ?_⟩
  cases y with
  | dat d => exact s
  | exc c fs => exact s
  | glt ds => exact s
  | own c =>
    obtain ⟨a, e, hn, hc⟩ := s
    exact ⟨a, e, hn, hc.keep (Ex.refl _) fun o h => ex _ _ h⟩
/-- a, b, .. = (x, y, ..), the tuple being made -/
theorem s_parT {tg : Expr} {es : List Expr} {is : List Nat} {ies : List IE} {k2 : Nat} {pt2 pos : Pos} (hK : g.K = X.K) (ha : ∀ ρ, PA X es (rdA g ρ (evEs p Φ ies ρ))) (hg : PG X tg (tgR X.K (.tup (is.map Tgt.name)))) (hB : ∀ k ∈ is, B k = true) (hlen : is.length ≤ sizeLine)
    (hs : swapsWithSole [tg] (.Tuple es k2 pt2) pos.line X.env = pure false) (hw : swappedStores [tg] (.Tuple es k2 pt2) X.env = pure none) (h1 : (assignEach [tg] X.env).map (·.2) = [assign tg X.env]) (ρ : Env) :
    PS X (.Assign [tg] (.Tuple es k2 pt2) pos) (rdS g B ρ (evS p Φ np (.par is ies) ρ)) := by
  refine ps_imp (ps_asg (pe_tup (ha ρ)) hg hs hw h1) fun D σ H h => ?_
  unfold evS at h
  refine rs1A h fun F rs ρ1 vs F1 H1 ii x w => ?_
  cases e : lend ρ1 rs [] with
  | none =>
    rw [e] at w
    exact w.elim
  | some q =>
    obtain ⟨ss, ρ2, ls⟩ := q
    rw [e] at w
    have w : wantS g B ρ σ F H (nxO (if (decide is.Nodup && decide (is.length = ss.length)) = true then some (setMany ρ2 is ss) else none)) D := w
    cases hd : (decide is.Nodup && decide (is.length = ss.length)) with
    | false =>
      rw [hd] at w
      exact w.elim
    | true =>
      rw [hd] at w
      obtain ⟨nd, hl⟩ := Bool.and_eq_true_iff.mp hd
      obtain ⟨hl2, F2, y⟩ := many_post (B := B) ii x e (of_decide_eq_true nd) (of_decide_eq_true hl) hB
      refine ⟨by rw [← hl2]; exact hlen, fun q hq => ?_⟩
      refine ⟨q, vs, rfl, SqT.of upd_same, by rw [List.length_map, hl2], ?_⟩
      exact gs_many hl2 (w _ F2 _ (y.more hq))

/-! ### for -/
theorem foldS_cons {gd : Env → Bool} {f : PyData → Env → SRes} {d : PyData} {r : List PyData} {D : Ends} (w : wantS g B ρ σ F H (foldS gd f (d :: r) ρ1) D) : gd ρ1 = true ∧ wantS g B ρ σ F H ((f d ρ1).turn fun ρ' => foldS gd f r ρ') D := by
  have w : wantS g B ρ σ F H (if gd ρ1 then (f d ρ1).turn fun ρ' => foldS gd f r ρ' else .bad) D := w
  cases hg : gd ρ1 with
  | false =>
    rw [hg] at w
    exact w.elim
  | true =>
    rw [hg] at w
    exact ⟨rfl, w⟩
theorem foldS_nil {gd : Env → Bool} {f : PyData → Env → SRes} {D : Ends} (w : wantS g B ρ σ F H (foldS gd f [] ρ1) D) : gd ρ1 = true ∧ wantS g B ρ σ F H (.nx ρ1) D := by
  have w : wantS g B ρ σ F H (if gd ρ1 then .nx ρ1 else .bad) D := w
  cases hg : gd ρ1 with
  | false =>
    rw [hg] at w
    exact w.elim
  | true =>
    rw [hg] at w
    exact ⟨rfl, w⟩
/-- what a turn's body is to leave -/
theorem turn_back {o : SRes} {f : Env → SRes} {D : Ends} {N : St → Hp → Prop} (w : wantS g B ρ σ F H (o.turn f) D) (hN : ∀ ρ' σ' F' H', PostS g.K g.E B ρ σ F H ρ' σ' none .non F' H' → wantS g B ρ σ F H (f ρ') D → N σ' H') :
    wantS g B ρ σ F H o { D with nx := N, ct := N, bk := D.nx } := by
  cases o with
  | nx ρ' => exact fun σ' F' H' y => hN ρ' σ' F' H' y w
  | brk ρ' => exact w
  | cnt ρ' => exact fun σ' F' H' y => hN ρ' σ' F' H' y w
  | ret s ρ' => exact w
  | exc c fs ρ' => exact w
  | bad => exact w
theorem for_read {t : Tgt} {it : II} {body : List IS} {D : Ends} {σ : St} {H : Hp} (hB : ∀ i, B' i = true → B i = true) (hT : ∀ i ∈ namesT t, B' i = true) (hG : ∀ q ρ1 j, evI p Φ it ρ = .ok q ρ1 → q.2 = some j → B' j = false)
    (h : rdS g B ρ (evS p Φ np (.forr t it body) ρ) D σ H) : tFor (rdI g ρ (evI p Φ it ρ)) (tgR g.K t) (uS g B' (evSs p Φ np body)) D σ H := by
  obtain ⟨F0, i0, w⟩ := h
  unfold evS at w
  refine ⟨F0, i0, ?_⟩
  cases ho : evI p Φ it ρ with
  | bad =>
    rw [ho] at w
    exact w
  | exc c fs ρ1 =>
    rw [ho] at w
    exact exc_sl w
  | ok q ρ0 =>
    have hG := hG q ρ0
    obtain ⟨ds, gd⟩ := q
    rw [ho] at w
    have w : wantS g B ρ σ F0 H (foldS (fun ρ => guardOk ρ ds gd) (fun x ρ => match asgT t x ρ with
      | some ρ => evSs p Φ np body ρ
      | none => .bad) ds ρ0) D := w
    refine fun J gv0 F1 H1 x hgv itm => ?_
    have i1 := i0.post x
    have w := (wantS.back (B := B) w x.s).wide hB
    -- the guard
    have guard : ∀ {ρi : Env} {σi : St} {Fi Hi : Hp}, PostS g.K g.E B' ρ0 σ F1 H1 ρi σi none .non Fi Hi → guardOk ρi ds gd = true → AGv g.K F1 ds gv0 Fi Hi := fun {ρi σi Fi Hi} y hg => by
      cases gd with
      | none =>
        have e : gv0 = none := hgv
        subst e
        exact y.stp.ex
      | some j =>
        obtain ⟨u, rfl, hu⟩ := hgv
        refine guard_dv y.st ?_ hg
        unfold gv at hu ⊢
        rw [y.kpt j (hG j ho rfl)]
        exact hu
    refine ⟨fun i m σi Hi => m = ds.length - i ∧ i ≤ ds.length ∧ ∃ ρi Fi, PostS g.K g.E B' ρ0 σ F1 H1 ρi σi none .non Fi Hi ∧ wantS g B' ρ0 σ F1 H1 (foldS (fun ρ => guardOk ρ ds gd) (fun x ρ => match asgT t x ρ with
        | some ρ => evSs p Φ np body ρ
        | none => .bad) (ds.drop i) ρi) D, ⟨ds.length, by simp, Nat.zero_le _, ρ0, F1, PostS.refl i1.2, w⟩, ?_⟩
    rintro i m σi Hi ⟨rfl, hi, ρi, Fi, y, wi⟩
    have ii := i1.postS y
    by_cases hlt : i < ds.length
    · rw [List.drop_eq_getElem_cons hlt] at wi
      obtain ⟨hg, wi⟩ := foldS_cons wi
      obtain ⟨hgo, hyld⟩ := itm.step Fi Hi i ds[i] y.ok.sub (guard y hg) (List.getElem?_eq_getElem hlt)
      refine .inr ⟨hgo, fun σ' H' => ∃ ρi Fi, PostS g.K g.E B' ρ0 σ F1 H1 ρi σ' none .non Fi H' ∧ wantS g B' ρ0 σ F1 H1 (foldS (fun ρ => guardOk ρ ds gd) (fun x ρ => match asgT t x ρ with
        | some ρ => evSs p Φ np body ρ
        | none => .bad) (ds.drop (i + 1)) ρi) D, fun σ' H' z => ⟨ds.length - (i + 1), by omega, rfl, hlt, z⟩, fun z H3 hz => ?_⟩
      obtain ⟨F3, nv⟩ := hyld z H3 hz
      cases ha : asgT t ds[i] ρi with
      | none =>
        rw [ha] at wi
        exact wi.elim
      | some ρ2 =>
        rw [ha] at wi
        have wi : wantS g B' ρ0 σ F1 H1 ((evSs p Φ np body ρ2).turn fun ρ' => foldS (fun ρ => guardOk ρ ds gd) (fun x ρ => match asgT t x ρ with
          | some ρ => evSs p Φ np body ρ
          | none => .bad) (ds.drop (i + 1)) ρ') D := wi
        have y3 : PostS g.K g.E B' ρ0 σ F1 H1 ρi σi none .non F3 H3 := y.trans ((PostL.refl y.st).new nv).s
        have rz : Rp g.K F3 z ds[i] := nv.at_
        refine tgR_ok ii.1 nv.sub rz ha fun σ2 a => ?_
        have y4 : PostS g.K g.E B' ρ0 σ F1 H1 ρ2 σ2 none .non F3 H3 := y3.asg a hT
        exact ⟨ρ2, F3, i1.postS y4, wantS.back (turn_back wi fun ρ' σ' F' H' y5 w5 => ⟨ρ', F', y5, w5⟩) y4⟩
    · have e : i = ds.length := by omega
      subst e
      rw [List.drop_length] at wi
      obtain ⟨hg, wi⟩ := foldS_nil wi
      exact .inl ⟨itm.stop Fi Hi ds.length y.ok.sub (guard y hg) (Nat.le_refl _), wi σi Fi Hi y⟩
theorem s_for {tg iter : Expr} {body : List Stmt} {pos : Pos} {t : Tgt} {it : II} {ib : List IS} (hK : g.K = X.K) (hp : PassesOwn (model X.prog X.w) X.A X.env X.xe) (hc : X.calm = true) (hi : ∀ ρ, PI X tg iter (rdI g ρ (evI p Φ it ρ))) (hg : PG X tg (tgR X.K t))
    (hb : ∀ ρ, PSs X body (rdS g B' ρ (evSs p Φ np ib ρ))) (hB : ∀ i, B' i = true → B i = true) (hT : ∀ i ∈ namesT t, B' i = true) (hG : ∀ ρ q ρ1 j, evI p Φ it ρ = .ok q ρ1 → q.2 = some j → B' j = false)
    (hs : ∀ x, foldedSetIterable iter X.env x = pure x) (ρ : Env) : PS X (.For tg iter body [] pos) (rdS g B ρ (evS p Φ np (.forr t it ib) ρ)) := by
  rw [← hK] at hg
  exact ps_imp (ps_for hp hc (hi ρ) hg (pss_u hb) hs) fun D σ H h => for_read hB hT (hG ρ) h
/-! what a for may watch -/
theorem hg_rng {es : List IE} {B' : Nat → Bool} : ∀ ρ q ρ1 j, evI p Φ (.rng es) ρ = .ok q ρ1 → q.2 = some j → B' j = false := fun ρ q ρ1 j h hj => by
  unfold evI at h
  cases ho : evEs p Φ es ρ with
  | bad =>
    rw [ho] at h
    cases h
  | exc c fs ρ1 =>
    rw [ho] at h
    cases h
  | ok rs ρ2 =>
    rw [ho] at h
    have h : (match (dataAll ρ2 rs).bind rangeD with
      | some xs => Res.ok (xs, (none : Option Nat)) ρ2
      | none => .bad) = .ok q ρ1 := h
    cases e : (dataAll ρ2 rs).bind rangeD with
    | none =>
      rw [e] at h
      cases h
    | some xs =>
      rw [e] at h
      cases h
      cases hj
theorem hg_var {i : Nat} {B' : Nat → Bool} (h0 : B' i = false) : ∀ ρ q ρ1 j, evI p Φ (.val (.var i)) ρ = .ok q ρ1 → q.2 = some j → B' j = false := fun ρ q ρ1 j h hj => by
  unfold evI evE at h
  cases e : getS ρ i with
  | none =>
    rw [e] at h
    cases h
  | some s =>
    rw [e] at h
    cases s with
    | exc c fs => cases h
    | glt ds => cases h
    | dat d =>
      cases d with
      | list ds =>
        cases h
        cases hj
      | tuple ds =>
        cases h
        cases hj
      | str x =>
        cases h
        cases hj
      | _ => cases h
    | own c =>
      have h : (match getS ρ i with
        | some (.own (.lst ds)) => Res.ok (ds, some i) ρ
        | _ => .bad) = .ok q ρ1 := h
      rw [e] at h
      cases c with
      | dic t kvs => cases h
      | lst ds =>
        cases h
        cases hj
        exact h0

/-! ### while -/
theorem s_while {c : Expr} {body : List Stmt} {pos : Pos} {ic : IE} {ib : List IS} (hp : PassesOwn (model X.prog X.w) X.A X.env X.xe) (hc : ∀ ρ, PT X c (rdT g ρ (evT p Φ ic ρ))) (hb : ∀ ρ, PSs X body (rdS g B ρ (evSs p Φ np ib ρ))) (ρ : Env) :
    PS X (.While c body [] pos) (rdS g B ρ (evS p Φ np (.whl ic ib) ρ)) := by
  have pc : PT X c (fun σ H Q => ∃ ρ, rdT g ρ (evT p Φ ic ρ) σ H Q) := ⟨fun pins s σ H Q I ⟨ρ, q⟩ => (hc ρ).run pins s σ H Q I q⟩
  refine ps_imp (ps_while hp pc (pss_u hb)) fun D σ H h => ?_
  obtain ⟨F0, i0, w⟩ := h
  unfold evS at w
  have w : wantS g B ρ σ F0 H (whileS (evT p Φ ic) (evSs p Φ np ib) turns ρ) D := w
  refine ⟨fun m σi Hi => ∃ ρi Fi, PostS g.K g.E B ρ σ F0 H ρi σi none .non Fi Hi ∧ wantS g B ρ σ F0 H (whileS (evT p Φ ic) (evSs p Φ np ib) m ρi) D, ⟨turns, ρ, F0, PostS.refl i0.2, w⟩, ?_⟩
  rintro m σi Hi ⟨ρi, Fi, y, wi⟩
  cases m with
  | zero => exact wi.elim
  | succ m =>
    have ii := i0.postS y
    have wi : wantS g B ρ σ F0 H ((evT p Φ ic ρi).st fun t ρ1 => if t = true then (evSs p Φ np ib ρ1).turn fun ρ2 => whileS (evT p Φ ic) (evSs p Φ np ib) m ρ2 else .nx ρ1) D := wi
    refine ⟨ρi, Fi, ii, ?_⟩
    cases ho : evT p Φ ic ρi with
    | bad =>
      rw [ho] at wi
      exact wi
    | exc c fs ρ1 =>
      rw [ho] at wi
      exact exc_sl (excS.back wi y)
    | ok t ρ1 =>
      rw [ho] at wi
      refine fun F1 H1 x => ?_
      have y1 : PostS g.K g.E B ρ σ F0 H ρ1 σi none .non F1 H1 := y.trans x.s
      cases t with
      | false => exact wi σi F1 H1 y1
      | true =>
        have wi : wantS g B ρ σ F0 H ((evSs p Φ np ib ρ1).turn fun ρ2 => whileS (evT p Φ ic) (evSs p Φ np ib) m ρ2) D := wi
        refine ⟨fun σ' H' => ∃ ρi Fi, PostS g.K g.E B ρ σ F0 H ρi σ' none .non Fi H' ∧ wantS g B ρ σ F0 H (whileS (evT p Φ ic) (evSs p Φ np ib) m ρi) D, fun σ' H' z => ⟨m, Nat.lt_succ_self m, z⟩, ?_⟩
        exact ⟨ρ1, F1, i0.postS y1, wantS.back (turn_back wi fun ρ' σ' F' H' y5 w5 => ⟨ρ', F', y5, w5⟩) y1⟩

/-! ### raise -/
theorem s_raise {e : Expr} {c : Nat} {pos : Pos} (hc : X.calm = true) (tk : Takes X g.W) (he : PMk X e (fun _ H Q => Q (.ref (g.ca c)) none H)) (ρ : Env) : PS X (.Raise (some e) none pos) (rdS g B ρ (evS p Φ np (.raise c []) ρ)) := by
  refine ps_imp (ps_raise hc tk he) fun D σ H h => ?_
  obtain ⟨F, i, w⟩ := h
  unfold evS evEs at w
  have w : excS g B ρ σ F H c [] ρ := w
  exact w (.ref (g.ca c)) none σ F H (PostS.refl i.2) ⟨rfl, .inl ⟨rfl, rfl⟩⟩
end Mini
/-! Mini, part L: the operators' facts. -/
namespace Mini
open PySem L2
variable {g : Gx} {ρ ρ1 ρ2 ρ3 : Env} {σ σ1 σ2 : St} {F H F1 H1 F2 H2 : Hp} {rs qs : List Rv} {vs us : List V} {X : Cx} {p : Pg} {Φ : Orc}
variable {K : PySem.W.Frag} {E : EP} {B B' : Nat → Bool} {np : Nat}

mutual
theorem Rp.dp : ∀ {v : V} {d : PyData}, Rp K H v d → d.canLay0 = true → Dp K H v d
  | _, _, .non, _ => .non
  | _, _, .bl b, _ => .bl b
  | _, _, .int i, _ => .int i
  | _, _, .str x, _ => .str x
  | _, _, .lst h r, c => .lst h.sq (RpAll.dp r (by simpa [PyData.canLay0] using c))
  | _, _, .tup h r, c => .tup (SqT.of h) (RpAll.dp r (by simpa [PyData.canLay0] using c))
  | _, _, .con h _ r, c => .tup (.inr h) (RpAll.dp r (by simpa [PyData.canLay0] using c))
  | _, _, .dicK _ _ _, c => by simp [PyData.canLay0] at c
  | _, _, .dicT _ _ _, c => by simp [PyData.canLay0] at c
theorem RpAll.dp : ∀ {vs : List V} {ds : List PyData}, RpAll K H vs ds → PyData.canLayAll0 ds = true → DpAll K H vs ds
  | _, _, .nil, _ => .nil
  | _, _, .cons h r, c => by
    obtain ⟨c1, c2⟩ := Bool.and_eq_true_iff.mp (by simpa [PyData.canLayAll0] using c)
    exact .cons (Rp.dp h c1) (RpAll.dp r c2)
end
theorem Dv.dp {v : V} {d : PyData} (e : Ex F H) (x : Dv K F H v d) (s : shapedD d = true) : Dp K H v d := (x.rp e).dp (SeqAt.canLay_of_shaped s)
theorem Dv.rpT {v : V} {ds : List PyData} (x : Dv K F H v (.tuple ds)) : Rp K F v (.tuple ds) := by
  rcases x with h | ⟨a, c, rfl, _, e⟩
  · exact h
  · cases c <;> cases e
theorem line1 : (1000000 : Nat) ≤ sizeLine := by decide
theorem fit_le {n : Nat} (h : fitN n = true) : n ≤ sizeLine := fit_line h
theorem if_some {α : Type} {c : Bool} {a z : α} (h : (if c = true then some a else none) = some z) : c = true ∧ a = z := by
  cases c with
  | false => cases h
  | true => exact ⟨rfl, Option.some.inj h⟩

/-! ### lists put together -/
def rCatR (K : PySem.W.Frag) : R2 := fun x y H Q => ∃ l b xs zs, x = .ref l ∧ y = .ref b ∧ LstAt K H l xs ∧ LstAt K H b zs ∧ xs.length + zs.length ≤ sizeLine ∧ ∀ q, H q = none → Q (.ref q) (upd H q (.lst (xs ++ zs)))
theorem op_catR : OpR X (binaryOp .Add) (rCatR X.K) := by
  intro pins s σ H x y v u Q I rx ry h
  obtain ⟨l, b, xs, zs, rfl, rfl, hL, hB, hz, q⟩ := h
  cases rx
  cases ry
  obtain ⟨_, i1, n1, r1, e1⟩ := hL.ok I
  obtain ⟨_, i2, n2, r2, e2⟩ := hB.ok I
  have l1 := r1.length
  have l2 := r2.length
  refine PySem.P.add_list e1 e2 ?_ (by rw [List.size_toArray, List.size_toArray]; omega)
  have ea : i1.toArray ++ i2.toArray = (i1 ++ i2).toArray := by simp
  rw [ea]
  exact ⟨.ref _, _, I.lnew (t' := s.toks) (r1.append r2) (by rw [List.length_append]; exact hz), rfl, q _ I.fresh⟩
/-! ### + -/
theorem rp_rep {xs : List V} {ds : List PyData} (r : RpAll K F xs ds) : ∀ n : Nat, RpAll K F (List.replicate n xs).flatten (List.replicate n ds).flatten
  | 0 => .nil
  | n + 1 => by
    rw [List.replicate_succ, List.replicate_succ, List.flatten_cons, List.flatten_cons]
    exact r.append (rp_rep r n)
theorem int_new {i : Int} (s : Ex F H) {Q : VK} (q : ∀ w F' H', NewV K F H (.dat (.int i)) w F' H' → Q w H') : Q (.int i) H := q _ F H (.same s (.int i))
theorem bool_new {b : Bool} (s : Ex F H) {Q : VK} (q : ∀ w F' H', NewV K F H (.dat (.bool b)) w F' H' → Q w H') : Q (.bl b) H := q _ F H (.same s (.bl b))
theorem str_new {x : Str} (s : Ex F H) {Q : VK} (q : ∀ w F' H', NewV K F H (.dat (.str x)) w F' H' → Q w H') : Q (.str x) H := q _ F H (.same s (.str x))
theorem o_add : OpR X (binaryOp .Add) (rBin X.K (binD .add)) := by
  intro pins s σ H x y v u Q I rx ry h
  obtain ⟨F, d, e, z, ex, hd, he, hf, q⟩ := h
  cases d with
  | int i => cases e with
    | int j =>
      cases hf
      exact op_add pins s σ H x y v u Q I rx ry ⟨i, j, hd.int, he.int, int_new ex q⟩
    | _ => cases hf
  | str a => cases e with
    | str b =>
      obtain ⟨c, rfl⟩ := if_some hf
      exact op_add_str pins s σ H x y v u Q I rx ry ⟨a, b, hd.str, he.str, fit_le c, str_new ex q⟩
    | _ => cases hf
  | list as => cases e with
    | list bs =>
      obtain ⟨c, rfl⟩ := if_some hf
      obtain ⟨l, xs, rfl, h1, r1⟩ := hd.lstR ex
      obtain ⟨b, zs, rfl, h2, r2⟩ := he.lstR ex
      exact op_catR pins s σ H _ _ v u Q I rx ry ⟨l, b, xs, zs, rfl, rfl, h1, h2, by rw [r1.length, r2.length]; exact fit_le c, fun a ha => q _ _ _ (.lst ex ha (r1.append r2))⟩
    | _ => cases hf
  | tuple as => cases e with
    | tuple bs =>
      obtain ⟨c, rfl⟩ := if_some hf
      obtain ⟨l, xs, rfl, h1, r1⟩ := hd.tup ex
      obtain ⟨b, zs, rfl, h2, r2⟩ := he.tup ex
      have p1 := hd.rpT
      have p2 := he.rpT
      refine op_catA pins s σ H _ _ v u Q I rx ry ⟨l, b, xs, zs, rfl, rfl, h1, h2, by rw [r1.length, r2.length]; exact fit_le c, fun e1 => ?_, fun _ e2 => ?_, fun _ _ a ha => q _ _ _ (.tup ex ha (r1.append r2))⟩
      · subst e1
        cases r1
        exact q _ F H (.same ex p2)
      · subst e2
        cases r2
        rw [List.append_nil] at q
        exact q _ F H (.same ex p1)
    | _ => cases hf
  | _ => cases hf
theorem o_sub : OpR X (binaryOp .Sub) (rBin X.K (binD .sub)) := by
  intro pins s σ H x y v u Q I rx ry h
  obtain ⟨F, d, e, z, ex, hd, he, hf, q⟩ := h
  cases d with
  | int i => cases e with
    | int j =>
      cases hf
      exact op_sub pins s σ H x y v u Q I rx ry ⟨i, j, hd.int, he.int, int_new ex q⟩
    | _ => cases hf
  | _ => cases hf
theorem small_ok {i : Int} (h : small i = true) : -(2 ^ 64) < i ∧ i < 2 ^ 64 := by
  obtain ⟨h1, h2⟩ := Bool.and_eq_true_iff.mp (show (decide (-18446744073709551616 < i) && decide (i < 18446744073709551616)) = true from h)
  exact ⟨of_decide_eq_true h1, of_decide_eq_true h2⟩
theorem wide_ok {i : Int} (h : wide i = true) : i.natAbs.log2 < 100000 := of_decide_eq_true h
def rRepR (K : PySem.W.Frag) : R2 := fun x y H Q => ∃ l k xs, x = .ref l ∧ y = .int k ∧ LstAt K H l xs ∧ -(2 ^ 63) ≤ k ∧ k < 2 ^ 63 ∧ xs.length * k.toNat ≤ sizeLine ∧ ∀ q, H q = none → Q (.ref q) (upd H q (.lst (List.replicate k.toNat xs).flatten))
theorem flat_rep (its : List Value) (m : Nat) : (List.replicate m its.toArray).foldl (· ++ ·) #[] = (List.replicate m its).flatten.toArray := by
  have h : ∀ (acc : List Value), (List.replicate m its.toArray).foldl (· ++ ·) acc.toArray = (acc ++ (List.replicate m its).flatten).toArray := by
    induction m with
    | zero => intro acc; simp
    | succ m ih =>
      intro acc
      rw [List.replicate_succ, List.foldl_cons, List.replicate_succ, List.flatten_cons, ← List.append_assoc, ← ih]
      simp
  have := h []
  simpa using this
open PySem.Spec PyProof.Rows in
theorem op_repR : OpR X (binaryOp .Mult) (rRepR X.K) := by
  intro pins s σ H x y v u Q I rx ry h
  obtain ⟨l, k, xs, rfl, rfl, hH, h1, h2, hz, q⟩ := h
  cases rx
  obtain ⟨t, rfl⟩ := ry
  obtain ⟨_, its, n, r, e⟩ := hH.ok I
  have hl := r.length
  have size : its.toArray.size * k.toNat ≤ sizeLine := by
    rw [List.size_toArray, ← hl]
    exact hz
  have n1 : ¬ (!Builtin.List.listFitsIndex k) = true := by simp [fitsIndex_both h1 h2]
  have n2 : ¬ its.toArray.size * k.toNat > (2 ^ 63 - 1) / 8 := fun z => absurd (Nat.lt_of_lt_of_le z size) (by decide)
  have n3 : ¬ Builtin.List.listTooLong (its.toArray.size * k.toNat) = true := by
    rw [notLongL size]
    decide
  have made : (List.replicate (if its.toArray.isEmpty = true then 0 else k.toNat) its.toArray).foldl (fun x1 x2 => x1 ++ x2) #[] = (List.replicate k.toNat its).flatten.toArray := by
    rw [flat_rep]
    cases its with
    | nil => simp
    | cons a b => simp
  have tl : s.TypeIs (.ref l) "list" := ⟨_, e, rfl⟩
  refine wpAny_binaryOp_repeat_ref (T := "list") (U := "int") (by decide) tl (fun s' => typeIs_int s' k t) noFill_list_mul F.fills_int_mul F.slot_int_rmul repeat_list F.slot_int_index.lookup ?_
  refine call_meets F.slot_int_rmul (typeIs_int s k t) F.entry_int_rmul (F.args_int_rmul_2 _ _) (int___rmul___int_list k t l its.toArray n) ⟨e, rfl, tl, ?_⟩
  refine call_meets F.slot_list_mul tl F.entry_list_mul (F.args_list_mul_2 _ _) (AutoListH.list___mul___list_int_3 l its.toArray n k t n1 n2 n3) ⟨e, ?_⟩
  rw [made]
  exact ⟨.ref _, _, I.lnew (t' := s.toks) (r.rep k.toNat) (by rw [lm_len_rep_flat, Nat.mul_comm]; exact hz), rfl, q _ I.fresh⟩
theorem o_mul : OpR X (binaryOp .Mult) (rBin X.K (binD .mul)) := by
  intro pins s σ H x y v u Q I rx ry h
  obtain ⟨F, d, e, z, ex, hd, he, hf, q⟩ := h
  cases d with
  | int i => cases e with
    | int j =>
      obtain ⟨c, rfl⟩ := if_some hf
      have q' : Q (.int (i * j)) H := int_new ex q
      have c : (small i || small j || (wide i && wide j)) = true := c
      rcases Bool.or_eq_true_iff.mp c with c | c
      · rcases Bool.or_eq_true_iff.mp c with c | c
        · exact op_mul pins s σ H x y v u Q I rx ry ⟨i, j, hd.int, he.int, .inl (small_ok c), q'⟩
        · exact op_mul pins s σ H x y v u Q I rx ry ⟨i, j, hd.int, he.int, .inr (small_ok c), q'⟩
      · obtain ⟨c1, c2⟩ := Bool.and_eq_true_iff.mp c
        have c1 := wide_ok c1
        have c2 := wide_ok c2
        exact op_mulW pins s σ H x y v u Q I rx ry ⟨i, j, hd.int, he.int, by unfold CMulW; omega, q'⟩
    | _ => cases hf
  | list as => cases e with
    | int k =>
      obtain ⟨c, rfl⟩ := if_some hf
      obtain ⟨c0, c3⟩ := Bool.and_eq_true_iff.mp c
      obtain ⟨c1, c2⟩ := Bool.and_eq_true_iff.mp c0
      have c1 := of_decide_eq_true c1
      have c2 := of_decide_eq_true c2
      obtain ⟨l, xs, rfl, h1, r1⟩ := hd.lstR ex
      exact op_repR pins s σ H _ _ v u Q I rx ry ⟨l, k, xs, rfl, he.int, h1, by omega, by omega, by rw [r1.length]; exact fit_le c3, fun a ha => q _ _ _ (.lst ex ha (rp_rep r1 _))⟩
    | _ => cases hf
  | tuple as => cases e with
    | int k =>
      obtain ⟨c, rfl⟩ := if_some hf
      obtain ⟨c0, c4⟩ := Bool.and_eq_true_iff.mp c
      obtain ⟨c0, c3⟩ := Bool.and_eq_true_iff.mp c0
      obtain ⟨c1, c2⟩ := Bool.and_eq_true_iff.mp c0
      have c2 := of_decide_eq_true c2
      have c3 := of_decide_eq_true c3
      have c4 := of_decide_eq_true c4
      obtain ⟨l, xs, rfl, h1, r1⟩ := hd.tup ex
      refine op_repT pins s σ H _ _ v u Q I rx ry ⟨l, k, xs, rfl, he.int, h1, fun e1 => ?_, c2, c3, by rw [r1.length]; exact c4, fun a ha => q _ _ _ (.tup ex ha (rp_rep r1 _))⟩
      subst e1
      cases r1
      cases c1
    | _ => cases hf
  | _ => cases hf
theorem o_fdiv : OpR X (binaryOp .FloorDiv) (rBin X.K (binD .fdiv)) := by
  intro pins s σ H x y v u Q I rx ry h
  obtain ⟨F, d, e, z, ex, hd, he, hf, q⟩ := h
  cases d with
  | int i => cases e with
    | int j =>
      obtain ⟨c, rfl⟩ := if_some hf
      obtain ⟨c1, c2⟩ := Bool.and_eq_true_iff.mp (show (decide (0 < j) && decide (j.natAbs.log2 < 8000)) = true from c)
      have c1 := of_decide_eq_true c1
      have c2 := of_decide_eq_true c2
      have q' : Q (.int (i.fdiv j)) H := int_new ex q
      rw [Int.fdiv_eq_ediv_of_nonneg i (by omega)] at q'
      exact op_fdivW pins s σ H x y v u Q I rx ry ⟨i, j, hd.int, he.int, ⟨c1, by omega⟩, q'⟩
    | _ => cases hf
  | _ => cases hf
theorem o_mod : OpR X (binaryOp .Mod) (rBin X.K (binD .mod)) := by
  intro pins s σ H x y v u Q I rx ry h
  obtain ⟨F, d, e, z, ex, hd, he, hf, q⟩ := h
  cases d with
  | int i => cases e with
    | int j =>
      have hf : (if decide (j = 0) then none else some (Sv.dat (.int (i.fmod j)))) = some z := hf
      by_cases c : j = 0
      · rw [decide_eq_true c] at hf
        cases hf
      · rw [decide_eq_false c] at hf
        cases hf
        exact op_modN pins s σ H x y v u Q I rx ry ⟨i, j, hd.int, he.int, c, int_new ex q⟩
    | _ => cases hf
  | _ => cases hf
theorem o_pow : OpR X (binaryOp .Pow) (rBin X.K (binD .pow)) := by
  intro pins s σ H x y v u Q I rx ry h
  obtain ⟨F, d, e, z, ex, hd, he, hf, q⟩ := h
  cases d with
  | int i => cases e with
    | int j =>
      obtain ⟨c, rfl⟩ := if_some hf
      obtain ⟨c0, c3⟩ := Bool.and_eq_true_iff.mp c
      obtain ⟨c1, c2⟩ := Bool.and_eq_true_iff.mp c0
      have c1 := of_decide_eq_true c1
      have c2 := of_decide_eq_true c2
      have c3 := small_ok c3
      exact op_pow pins s σ H x y v u Q I rx ry ⟨i, j, hd.int, he.int, ⟨c1, by omega, by omega⟩, int_new ex q⟩
    | _ => cases hf
  | _ => cases hf
/-! op= -/
theorem p_add : PIp X .Add (rBin X.K fun d e => (augV .add d e).map Sv.dat) := by
  intro pins s σ H x y v u Q I rx ry h
  obtain ⟨F, d, e, z, ex, hd, he, hf, q⟩ := h
  cases d with
  | int i => cases e with
    | int j =>
      cases hf
      exact ip_add pins s σ H x y v u Q I rx ry ⟨i, j, hd.int, he.int, int_new ex q⟩
    | _ => cases hf
  | _ => cases hf
theorem p_sub : PIp X .Sub (rBin X.K fun d e => (augV .sub d e).map Sv.dat) := by
  intro pins s σ H x y v u Q I rx ry h
  obtain ⟨F, d, e, z, ex, hd, he, hf, q⟩ := h
  cases d with
  | int i => cases e with
    | int j =>
      cases hf
      exact ip_sub pins s σ H x y v u Q I rx ry ⟨i, j, hd.int, he.int, int_new ex q⟩
    | _ => cases hf
  | _ => cases hf
end Mini
/-! Mini, part M: comparisons, membership, subscripts, slices. -/
namespace Mini
open PySem L2
variable {g : Gx} {ρ ρ1 ρ2 ρ3 : Env} {σ σ1 σ2 : St} {F H F1 H1 F2 H2 : Hp} {rs qs : List Rv} {vs us : List V} {X : Cx} {p : Pg} {Φ : Orc}
variable {K : PySem.W.Frag} {E : EP} {B B' : Nat → Bool} {np : Nat}

theorem map_bool {o : Option Bool} {z : Sv} (h : (o.map fun b => Sv.dat (.bool b)) = some z) : ∃ b, o = some b ∧ z = .dat (.bool b) := by
  cases o with
  | none => cases h
  | some b =>
    cases h
    exact ⟨b, rfl, rfl⟩
theorem o_lt : OpR X (compareOp .Lt) (rBin X.K (cmpS .lt)) := by
  intro pins s σ H x y v u Q I rx ry h
  obtain ⟨F, d, e, z, ex, hd, he, hf, q⟩ := h
  cases d with
  | int i => cases e with
    | int j =>
      cases hf
      exact op_lt pins s σ H x y v u Q I rx ry ⟨i, j, hd.int, he.int, bool_new ex q⟩
    | _ => cases hf
  | _ => cases hf
theorem o_le : OpR X (compareOp .LtE) (rBin X.K (cmpS .le)) := by
  intro pins s σ H x y v u Q I rx ry h
  obtain ⟨F, d, e, z, ex, hd, he, hf, q⟩ := h
  cases d with
  | int i => cases e with
    | int j =>
      cases hf
      exact op_le pins s σ H x y v u Q I rx ry ⟨i, j, hd.int, he.int, bool_new ex q⟩
    | _ => cases hf
  | _ => cases hf
theorem o_gt : OpR X (compareOp .Gt) (rBin X.K (cmpS .gt)) := by
  intro pins s σ H x y v u Q I rx ry h
  obtain ⟨F, d, e, z, ex, hd, he, hf, q⟩ := h
  cases d with
  | int i => cases e with
    | int j =>
      cases hf
      exact op_gt pins s σ H x y v u Q I rx ry ⟨i, j, hd.int, he.int, bool_new ex q⟩
    | _ => cases hf
  | _ => cases hf
theorem o_ge : OpR X (compareOp .GtE) (rBin X.K (cmpS .ge)) := by
  intro pins s σ H x y v u Q I rx ry h
  obtain ⟨F, d, e, z, ex, hd, he, hf, q⟩ := h
  cases d with
  | int i => cases e with
    | int j =>
      cases hf
      exact op_ge pins s σ H x y v u Q I rx ry ⟨i, j, hd.int, he.int, bool_new ex q⟩
    | _ => cases hf
  | _ => cases hf
theorem o_eq (hu : X.A.units + 64 < cLine) : OpR X (compareOp .Eq) (rBin X.K (cmpS .eq)) := by
  intro pins s σ H x y v u Q I rx ry h
  obtain ⟨F, d, e, z, ex, hd, he, hf, q⟩ := h
  have gen : ((if (shapedD d && shapedD e) = true then some (PyData.eqv d e) else none).map fun b => Sv.dat (.bool b)) = some z → wpAny (model X.prog X.w) X.A (compareOp .Eq v u) (L2.EP X pins σ Q) X.xe s := fun hf => by
    cases c : (shapedD d && shapedD e) with
    | false =>
      rw [c] at hf
      cases hf
    | true =>
      rw [c] at hf
      cases hf
      obtain ⟨c1, c2⟩ := Bool.and_eq_true_iff.mp c
      exact op_eqD hu pins s σ H x y v u Q I rx ry ⟨d, e, hd.dp ex c1, he.dp ex c2, c1, c2, bool_new ex q⟩
  cases d with
  | int i => cases e with
    | int j =>
      cases hf
      rw [hd.int] at rx
      rw [he.int] at ry
      refine op_eq pins s σ H _ _ v u Q I rx ry ⟨rfl, ?_⟩
      have e : decide (V.int i = V.int j) = decide (i = j) := by rw [decide_eq_decide]; exact ⟨fun h => by cases h; rfl, fun h => by rw [h]⟩
      rw [e]
      exact bool_new ex q
    | _ => exact gen hf
  | str i => cases e with
    | str j =>
      cases hf
      rw [hd.str] at rx
      rw [he.str] at ry
      refine op_eq pins s σ H _ _ v u Q I rx ry ⟨rfl, ?_⟩
      have e : decide (V.str i = V.str j) = decide (i = j) := by rw [decide_eq_decide]; exact ⟨fun h => by cases h; rfl, fun h => by rw [h]⟩
      rw [e]
      exact bool_new ex q
    | _ => exact gen hf
  | _ => exact gen hf
theorem o_ne (hu : X.A.units + 64 < cLine) : OpR X (compareOp .NotEq) (rBin X.K (cmpS .ne)) := by
  intro pins s σ H x y v u Q I rx ry h
  obtain ⟨F, d, e, z, ex, hd, he, hf, q⟩ := h
  have gen : ((if (shapedD d && shapedD e) = true then some (!PyData.eqv d e) else none).map fun b => Sv.dat (.bool b)) = some z → wpAny (model X.prog X.w) X.A (compareOp .NotEq v u) (L2.EP X pins σ Q) X.xe s := fun hf => by
    cases c : (shapedD d && shapedD e) with
    | false =>
      rw [c] at hf
      cases hf
    | true =>
      rw [c] at hf
      cases hf
      obtain ⟨c1, c2⟩ := Bool.and_eq_true_iff.mp c
      exact op_neD hu pins s σ H x y v u Q I rx ry ⟨d, e, hd.dp ex c1, he.dp ex c2, c1, c2, bool_new ex q⟩
  cases d with
  | int i => cases e with
    | int j =>
      cases hf
      rw [hd.int] at rx
      rw [he.int] at ry
      refine op_ne pins s σ H _ _ v u Q I rx ry ⟨rfl, ?_⟩
      have e : decide (V.int i = V.int j) = decide (i = j) := by rw [decide_eq_decide]; exact ⟨fun h => by cases h; rfl, fun h => by rw [h]⟩
      rw [e]
      exact bool_new ex q
    | _ => exact gen hf
  | str i => cases e with
    | str j =>
      cases hf
      rw [hd.str] at rx
      rw [he.str] at ry
      refine op_ne pins s σ H _ _ v u Q I rx ry ⟨rfl, ?_⟩
      have e : decide (V.str i = V.str j) = decide (i = j) := by rw [decide_eq_decide]; exact ⟨fun h => by cases h; rfl, fun h => by rw [h]⟩
      rw [e]
      exact bool_new ex q
    | _ => exact gen hf
  | _ => exact gen hf

/-! ### keys -/
theorem key_rp {k : PyData} {v : V} {q : Key} (h : keyK k = some q) (r : Rp K F v k) : v = kV q ∧ k = kD q := by
  cases k with
  | int i =>
    cases h
    cases r
    exact ⟨rfl, rfl⟩
  | str x =>
    cases h
    cases r
    exact ⟨rfl, rfl⟩
  | _ => cases h
theorem keys_rp : ∀ {ds : List PyData} {vs : List V}, (ds.all fun d => (keyK d).isSome) = true → RpAll K F vs ds → ∃ ks : List Key, vs = ks.map kV ∧ ds = ks.map kD
  | _, _, _, .nil => ⟨[], rfl, rfl⟩
  | d :: ds, v :: vs, c, .cons h r => by
    rw [List.all_cons] at c
    obtain ⟨c1, c2⟩ := Bool.and_eq_true_iff.mp c
    obtain ⟨ks, rfl, rfl⟩ := keys_rp c2 r
    obtain ⟨q, hq⟩ := Option.isSome_iff_exists.mp c1
    obtain ⟨rfl, rfl⟩ := key_rp hq h
    exact ⟨q :: ks, rfl, rfl⟩
theorem kD_inj : ∀ {a b : Key}, kD a = kD b → a = b
  | .inl i, .inl j, h => by
    cases h
    rfl
  | .inr x, .inr y, h => by
    cases h
    rfl
  | .inl i, .inr y, h => by cases h
  | .inr x, .inl j, h => by cases h
theorem kDs_inj : ∀ {a b : List Key}, a.map kD = b.map kD → a = b
  | [], [], _ => rfl
  | [], _ :: _, h => by cases h
  | _ :: _, [], h => by cases h
  | a :: r, b :: q, h => by
    rw [List.map_cons, List.map_cons] at h
    injection h with h1 h2
    rw [kD_inj h1, kDs_inj h2]
theorem same_iff {a b : PyData} : sameD a b = true ↔ a = b := ⟨sameD_eq, fun h => by rw [h]; exact sameD_refl b⟩
theorem look_some {kvs : List (PyData × PyData)} {k d : PyData} (h : lookD kvs k = some d) : ∃ q ∈ kvs, q.1 = k ∧ q.2 = d := by
  unfold lookD at h
  obtain ⟨q, hq, e⟩ := Option.map_eq_some_iff.mp h
  have hs : sameD q.1 k = true := by
    have := List.find?_some hq
    exact this
  exact ⟨q, List.mem_of_find?_eq_some hq, sameD_eq hs, e⟩
/-- dict's pairs: keys by f -/
theorem look_rel {κ : Type} [DecidableEq κ] {f : κ → PyData} (inj : ∀ a b, f a = f b → a = b) : ∀ {ks : List (κ × V)} {kvs : List (PyData × PyData)} (k : κ), ks.map (fun p => f p.1) = kvs.map (·.1) → RpAll K F (ks.map (·.2)) (kvs.map (·.2)) →
    (∀ d, lookD kvs (f k) = some d → ∃ v, valV ks k = some v ∧ Rp K F v d) ∧ (hasD kvs (f k) = (valV ks k).isSome)
  | [], [], k, _, _ => ⟨fun d h => (nomatch h), rfl⟩
  | [], _ :: _, _, h, _ => by cases h
  | _ :: _, [], _, h, _ => by cases h
  | (a, v) :: ks, (b, d) :: kvs, k, h, r => by
    rw [List.map_cons, List.map_cons] at h
    injection h with h1 h2
    have h1 : f a = b := h1
    rw [List.map_cons, List.map_cons] at r
    cases r with
    | cons r1 r2 =>
      obtain ⟨i1, i2⟩ := look_rel inj k h2 r2
      by_cases e : a = k
      · have sm : sameD b (f k) = true := by
          rw [← h1, e]
          exact sameD_refl _
        refine ⟨fun d' h' => ⟨v, valV_pos e, ?_⟩, ?_⟩
        · have : lookD ((b, d) :: kvs) (f k) = some d := by
            unfold lookD
            rw [List.find?_cons_of_pos (by exact sm)]
            rfl
          rw [this] at h'
          cases h'
          exact r1
        · rw [valV_pos e]
          show (sameD b (f k) || hasD kvs (f k)) = true
          rw [sm]
          rfl
      · have sm : sameD b (f k) = false := by
          cases q : sameD b (f k) with
          | false => rfl
          | true =>
            have := sameD_eq q
            rw [← h1] at this
            exact absurd (inj _ _ this) e
        refine ⟨fun d' h' => ?_, ?_⟩
        · rw [valV_neg e]
          refine i1 d' ?_
          have : lookD ((b, d) :: kvs) (f k) = lookD kvs (f k) := by
            unfold lookD
            rw [List.find?_cons_of_neg (by rw [sm]; exact Bool.false_ne_true)]
          rw [← this, h']
        · rw [valV_neg e]
          show (sameD b (f k) || hasD kvs (f k)) = _
          rw [sm, Bool.false_or, i2]
theorem put_keys {κ : Type} [DecidableEq κ] {f : κ → PyData} (inj : ∀ a b, f a = f b → a = b) {ks : List (κ × V)} {kvs : List (PyData × PyData)} (k : κ) {v : V} {d : PyData} (h : ks.map (fun p => f p.1) = kvs.map (·.1)) (r : RpAll K F (ks.map (·.2)) (kvs.map (·.2))) (rv : Rp K F v d) :
    (putK ks k v).map (fun p => f p.1) = (putD kvs (f k) d).map (·.1) ∧ RpAll K F ((putK ks k v).map (·.2)) ((putD kvs (f k) d).map (·.2)) := by
  have hh := (look_rel inj k h r).2
  have any_ : (ks.any fun kv => decide (kv.1 = k)) = hasD kvs (f k) := by rw [hh, valV_any]
  unfold putK putD
  rw [any_]
  cases c : hasD kvs (f k) with
  | true =>
    rw [if_pos rfl, if_pos rfl]
    clear any_ hh c
    induction ks generalizing kvs with
    | nil => cases kvs with
      | nil => exact ⟨rfl, .nil⟩
      | cons b kvs => cases h
    | cons a ks ih => cases kvs with
      | nil => cases h
      | cons b kvs =>
        rw [List.map_cons, List.map_cons] at h
        injection h with h1 h2
        rw [List.map_cons, List.map_cons] at r
        cases r with
        | cons r1 r2 =>
          obtain ⟨i1, i2⟩ := ih h2 r2
          by_cases e : a.1 = k
          · have sm : sameD b.1 (f k) = true := by
              rw [← h1, e]
              exact sameD_refl _
            simp only [List.map_cons, sm, if_true, if_pos e]
            exact ⟨by rw [h1, i1], .cons rv i2⟩
          · have sm : sameD b.1 (f k) = false := by
              cases q : sameD b.1 (f k) with
              | false => rfl
              | true =>
                have := sameD_eq q
                rw [← h1] at this
                exact absurd (inj _ _ this) e
            simp only [List.map_cons, sm, if_neg e, Bool.false_eq_true, if_false]
            exact ⟨by rw [h1, i1], .cons r1 i2⟩
  | false =>
    rw [if_neg Bool.false_ne_true, if_neg Bool.false_ne_true]
    simp only [List.map_append, List.map_cons, List.map_nil]
    exact ⟨by rw [h], r.append (.one rv)⟩
theorem kT_inj : ∀ a b : List Key, PyData.tuple (a.map kD) = .tuple (b.map kD) → a = b := fun a b h => by
  injection h with h
  exact kDs_inj h
/-- a key that is no tuple, one that is -/
theorem key_plain {k : PyData} {v : V} (h : isKey k = true) (t : isTup k = false) (r : Rp K F v k) : ∃ q : Key, v = kV q ∧ k = kD q := by
  cases k with
  | int i =>
    cases r
    exact ⟨.inl i, rfl, rfl⟩
  | str x =>
    cases r
    exact ⟨.inr x, rfl, rfl⟩
  | tuple ds => cases t
  | _ => cases h
theorem key_tup {k : PyData} {v : V} (h : isKey k = true) (t : isTup k = true) (r : Rp K F v k) : ∃ (b : Addr) (q : List Key), v = .ref b ∧ k = .tuple (q.map kD) ∧ F b = some (.tup (q.map kV)) := by
  cases k with
  | tuple ds =>
    obtain ⟨h1, h2⟩ := Bool.and_eq_true_iff.mp (show ((ds.all fun d => (keyK d).isSome) && !conLike (.tuple ds)) = true from h)
    cases r with
    | tup e ra =>
      obtain ⟨q, rfl, rfl⟩ := keys_rp h1 ra
      exact ⟨_, q, rfl, rfl, e⟩
    | con e c ra =>
      rw [c] at h2
      cases h2
  | _ => cases t
theorem Dv.key {v : V} {k : PyData} (h : isKey k = true) (x : Dv K F H v k) : Rp K F v k := by
  rcases x with r | ⟨a, c, rfl, _, e⟩
  · exact r
  · cases c <;> cases e <;> cases h
/-- a dict that is read -/
theorem Dv.dict {v : V} {kvs : List (PyData × PyData)} (x : Dv K F H v (.dict kvs)) (e : Ex F H) : ∃ a, v = .ref a ∧
    ((∃ ks, H a = some (.dK ks) ∧ ks.map (fun p => kD p.1) = kvs.map (·.1) ∧ RpAll K F (ks.map (·.2)) (kvs.map (·.2))) ∨
      ∃ ks, H a = some (.dT ks) ∧ ks.map (fun p => PyData.tuple (p.1.map kD)) = kvs.map (·.1) ∧ RpAll K F (ks.map (·.2)) (kvs.map (·.2))) := by
  rcases x with h | ⟨a, c, rfl, h, q⟩
  · cases h with
    | dicK h k r => exact ⟨_, rfl, .inl ⟨_, e _ _ h, k, r⟩⟩
    | dicT h k r => exact ⟨_, rfl, .inr ⟨_, e _ _ h, k, r⟩⟩
  · cases c with
    | lst ds => cases q
    | dic t es =>
      cases q
      cases t with
      | false => exact ⟨a, rfl, .inl h⟩
      | true => exact ⟨a, rfl, .inr h⟩
theorem dget_of {v u : V} {k d : PyData} {kvs : List (PyData × PyData)} (ex : Ex F H) (x : Dv K F H v (.dict kvs)) (y : Dv K F H u k) (hk : isKey k = true) (hl : lookD kvs k = some d) : ∃ a w, v = .ref a ∧ DGet H a u (some w) ∧ Rp K F w d := by
  obtain ⟨a, rfl, h⟩ := x.dict ex
  have ru := y.key hk
  obtain ⟨q, hq, e1, e2⟩ := look_some hl
  rcases h with ⟨ks, h1, h2, h3⟩ | ⟨ks, h1, h2, h3⟩
  · have nt : isTup k = false := by
      have : q.1 ∈ ks.map (fun p => kD p.1) := by rw [h2]; exact List.mem_map_of_mem hq
      obtain ⟨p, _, hp⟩ := List.mem_map.mp this
      rw [← e1, ← hp]
      cases p.1 <;> rfl
    obtain ⟨z, rfl, rfl⟩ := key_plain hk nt ru
    obtain ⟨w, hw, rw'⟩ := (look_rel (fun _ _ => kD_inj) z h2 h3).1 d hl
    exact ⟨a, w, rfl, .inl ⟨ks, z, .inl h1, rfl, hw.symm⟩, rw'⟩
  · have nt : isTup k = true := by
      have : q.1 ∈ ks.map (fun p => PyData.tuple (p.1.map kD)) := by rw [h2]; exact List.mem_map_of_mem hq
      obtain ⟨p, _, hp⟩ := List.mem_map.mp this
      rw [← e1, ← hp]
      rfl
    obtain ⟨b, z, rfl, rfl, hb⟩ := key_tup hk nt ru
    obtain ⟨w, hw, rw'⟩ := (look_rel (f := fun z : List Key => PyData.tuple (z.map kD)) kT_inj z h2 h3).1 d hl
    exact ⟨a, w, rfl, .inr ⟨ks, z, b, .inl h1, rfl, ex _ _ hb, hw.symm⟩, rw'⟩
theorem din_of {v u : V} {k : PyData} {kvs : List (PyData × PyData)} (ex : Ex F H) (x : Dv K F H v (.dict kvs)) (y : Dv K F H u k) (hk : isKey k = true) (hh : headKind kvs k = true) : ∃ a o, v = .ref a ∧ DGet H a u o ∧ o.isSome = hasD kvs k := by
  obtain ⟨a, rfl, h⟩ := x.dict ex
  have ru := y.key hk
  cases kvs with
  | nil => cases hh
  | cons q kvs =>
    have hh : isTup q.1 = isTup k := eq_of_beq hh
    rcases h with ⟨ks, h1, h2, h3⟩ | ⟨ks, h1, h2, h3⟩
    · cases ks with
      | nil => cases h2
      | cons p ks =>
        have e1 : kD p.1 = q.1 := by
          rw [List.map_cons, List.map_cons] at h2
          injection h2
        have nt : isTup k = false := by
          rw [← hh, ← e1]
          cases p.1 <;> rfl
        obtain ⟨z, rfl, rfl⟩ := key_plain hk nt ru
        have hw := (look_rel (fun _ _ => kD_inj) z h2 h3).2
        exact ⟨a, _, rfl, .inl ⟨_, z, .inl h1, rfl, rfl⟩, hw.symm⟩
    · cases ks with
      | nil => cases h2
      | cons p ks =>
        have e1 : PyData.tuple (p.1.map kD) = q.1 := by
          rw [List.map_cons, List.map_cons] at h2
          injection h2
        have nt : isTup k = true := by
          rw [← hh, ← e1]
          rfl
        obtain ⟨b, z, rfl, rfl, hb⟩ := key_tup hk nt ru
        have hw := (look_rel (f := fun z : List Key => PyData.tuple (z.map kD)) kT_inj z h2 h3).2
        exact ⟨a, _, rfl, .inr ⟨_, z, b, .inl h1, rfl, ex _ _ hb, rfl⟩, hw.symm⟩

/-! ### in -/
theorem flat_v {v : V} {d : PyData} (h : flatD d = true) (r : Rp K F v d) : flatV v = true := by
  cases r <;> first | rfl | cases h
theorem flat_vs : ∀ {vs : List V} {ds : List PyData}, ds.all flatD = true → RpAll K F vs ds → vs.all flatV = true
  | _, _, _, .nil => rfl
  | v :: vs, d :: ds, c, .cons h r => by
    rw [List.all_cons] at c ⊢
    obtain ⟨c1, c2⟩ := Bool.and_eq_true_iff.mp c
    rw [flat_v c1 h, flat_vs c2 r]
    rfl
theorem eq_v {v u : V} {d e : PyData} (hd : flatD d = true) (he : flatD e = true) (r : Rp K F v d) (r' : Rp K F u e) : eqV v u = PyData.eqv d e := by
  cases r <;> first | (cases hd; done) | (cases r' <;> first | (cases he; done) | rfl)
theorem in_v {v : V} {d : PyData} (hd : flatD d = true) (r : Rp K F v d) : ∀ {vs : List V} {ds : List PyData}, ds.all flatD = true → RpAll K F vs ds → inV v vs = inD d ds
  | _, _, _, .nil => rfl
  | w :: vs, e :: ds, c, .cons h r' => by
    rw [List.all_cons] at c
    obtain ⟨c1, c2⟩ := Bool.and_eq_true_iff.mp c
    show (eqV w v || inV v vs) = (PyData.eqv e d || inD d ds)
    rw [eq_v c1 hd h r, in_v hd r c2 r']
theorem Dv.flat {v : V} {d : PyData} (h : flatD d = true) (x : Dv K F H v d) : Rp K F v d := by
  rcases x with r | ⟨a, c, rfl, _, e⟩
  · exact r
  · cases c <;> cases e <;> cases h
theorem one_sign {x : Str} (h : x.length = 1) : ∃ c, x = ⟨#[c]⟩ := by
  obtain ⟨⟨l⟩⟩ := x
  match l, h with
  | [c], _ => exact ⟨c, rfl⟩
theorem in_str {x y : Str} {b neg : Bool} (h : (if decide (x.length = 1) = true then some (if neg then !decide (x.cps.toList.head? ∈ (y.cps.toList.map some)) else decide (x.cps.toList.head? ∈ (y.cps.toList.map some))) else none) = some b) : ∃ c, x = ⟨#[c]⟩ ∧ b = if neg then !decide (c ∈ y.cps.toList) else decide (c ∈ y.cps.toList) := by
  obtain ⟨h1, h2⟩ := if_some h
  obtain ⟨c, rfl⟩ := one_sign (of_decide_eq_true h1)
  refine ⟨c, rfl, ?_⟩
  rw [← h2]
  have e : decide ((⟨#[c]⟩ : Str).cps.toList.head? ∈ (y.cps.toList.map some)) = decide (c ∈ y.cps.toList) := by
    congr 1
    simp
  rw [e]
theorem o_in (hu : X.A.units + 65 < cLine) : OpR X (compareOp .In) (rBin X.K (cmpS .inn)) := by
  intro pins s σ H x y v u Q I rx ry h
  obtain ⟨F, d, e, z, ex, hd, he, hf, q⟩ := h
  obtain ⟨b, hb, rfl⟩ := map_bool hf
  have q' : Q (.bl b) H := bool_new ex q
  cases e with
  | str t => cases d with
    | str w =>
      obtain ⟨c, rfl, e⟩ := in_str (neg := false) hb
      rw [e] at q'
      exact op_in_sign pins s σ H x y v u Q I rx ry ⟨c, t, hd.str, he.str, q'⟩
    | _ => cases hb
  | list es =>
    have hb : (if (shapedD d && shapedD (.list es)) = true then some (inD d es) else none) = some b := by
      cases d <;> exact hb
    obtain ⟨c, rfl⟩ := if_some hb
    obtain ⟨c1, c2⟩ := Bool.and_eq_true_iff.mp c
    exact op_inD hu pins s σ H x y v u Q I rx ry ⟨d, es, hd.dp ex c1, he.dp ex c2, c1, c2, q'⟩
  | tuple es =>
    have hb : (if (flatD d && es.all flatD) = true then some (inD d es) else none) = some b := by
      cases d <;> exact hb
    obtain ⟨c, rfl⟩ := if_some hb
    obtain ⟨c1, c2⟩ := Bool.and_eq_true_iff.mp c
    obtain ⟨a, xs, rfl, h1, r1⟩ := he.tup ex
    have r0 := hd.flat c1
    refine op_in_seq pins s σ H _ _ v u Q I rx ry ⟨a, xs, rfl, .inr h1, flat_v c1 r0, flat_vs c2 r1, ?_⟩
    rw [if_neg Bool.false_ne_true, in_v c1 r0 c2 r1]
    exact q'
  | dict kvs =>
    have hb : (if (isKey d && headKind kvs d) = true then some (hasD kvs d) else none) = some b := by
      cases d <;> exact hb
    obtain ⟨c, rfl⟩ := if_some hb
    obtain ⟨c1, c2⟩ := Bool.and_eq_true_iff.mp c
    obtain ⟨a, o, rfl, dg, ho⟩ := din_of ex he hd c1 c2
    cases ry
    rw [← ho] at q'
    exact d_in (by omega) I dg rx fun s' I' => ⟨.bl o.isSome, H, I', rfl, q'⟩
  | _ => cases d <;> cases hb
theorem o_nin (hu : X.A.units + 65 < cLine) : OpR X (compareOp .NotIn) (rBin X.K (cmpS .nin)) := by
  intro pins s σ H x y v u Q I rx ry h
  obtain ⟨F, d, e, z, ex, hd, he, hf, q⟩ := h
  obtain ⟨b, hb, rfl⟩ := map_bool hf
  have q' : Q (.bl b) H := bool_new ex q
  cases e with
  | str t => cases d with
    | str w =>
      obtain ⟨c, rfl, e⟩ := in_str (neg := true) hb
      rw [e] at q'
      exact op_notIn_sign pins s σ H x y v u Q I rx ry ⟨c, t, hd.str, he.str, q'⟩
    | _ => cases hb
  | list es =>
    have hb : (if (shapedD d && shapedD (.list es)) = true then some (!inD d es) else none) = some b := by
      cases d <;> exact hb
    obtain ⟨c, rfl⟩ := if_some hb
    obtain ⟨c1, c2⟩ := Bool.and_eq_true_iff.mp c
    exact op_notInD hu pins s σ H x y v u Q I rx ry ⟨d, es, hd.dp ex c1, he.dp ex c2, c1, c2, q'⟩
  | tuple es =>
    have hb : (if (flatD d && es.all flatD) = true then some (!inD d es) else none) = some b := by
      cases d <;> exact hb
    obtain ⟨c, rfl⟩ := if_some hb
    obtain ⟨c1, c2⟩ := Bool.and_eq_true_iff.mp c
    obtain ⟨a, xs, rfl, h1, r1⟩ := he.tup ex
    have r0 := hd.flat c1
    refine op_notIn_seq pins s σ H _ _ v u Q I rx ry ⟨a, xs, rfl, .inr h1, flat_v c1 r0, flat_vs c2 r1, ?_⟩
    rw [if_pos rfl, in_v c1 r0 c2 r1]
    exact q'
  | dict kvs =>
    have hb : (if (isKey d && headKind kvs d) = true then some (!hasD kvs d) else none) = some b := by
      cases d <;> exact hb
    obtain ⟨c, rfl⟩ := if_some hb
    obtain ⟨c1, c2⟩ := Bool.and_eq_true_iff.mp c
    obtain ⟨a, o, rfl, dg, ho⟩ := din_of ex he hd c1 c2
    cases ry
    rw [← ho] at q'
    exact d_notIn (by omega) I dg rx fun s' I' => ⟨.bl (!o.isSome), H, I', rfl, q'⟩
  | _ => cases d <;> cases hb
end Mini
/-! Mini, part N: defs whose callers hold no guard; calls by position and by names. -/
namespace Mini
open PySem L2
variable {g : Gx} {ρ ρ1 ρ2 ρ3 : Env} {σ σ1 σ2 : St} {F H F1 H1 F2 H2 : Hp} {rs qs : List Rv} {vs us : List V} {X : Cx} {p : Pg} {Φ : Orc}
variable {K : PySem.W.Frag} {E : EP} {B B' : Nat → Bool} {np : Nat}

/-- the def at f keeps the promise sp, called where no guard is held -/
structure FnG (P : Program) (w : World) (K : PySem.W.Frag) (mg : Str → Option Value) (base : Heap) (k : Nat) (f : Addr) (fd : FuncData) (ps : List Str) (sp : Sp) : Prop where
  len : ∀ vs H Q E, sp vs H Q E → vs.length = ps.length
  run : ∀ (A : Around) (outer : List PySem.Env) (s : Shared) (H : Hp) (args : Args) (us : List Value) (vs : List V) (Q : VK) (E : XK), Room k A → A.guards = some [] → Env0 P w K mg base A outer s H → BindsTo s fd args (ps.zip us) → Vals vs us → sp vs H Q E →
    codeAny (model P w) A (.call (.ref f) args) (CR (L2.CX P w) outer P w H s Q E) s
theorem FnG.mono {P : Program} {w : World} {mg : Str → Option Value} {base : Heap} {j k : Nat} {f : Addr} {fd : FuncData} {ps : List Str} {sp : Sp} (G : FnG P w K mg base j f fd ps sp) (h : j ≤ k) : FnG P w K mg base k f fd ps sp :=
  ⟨G.len, fun A o s H a us vs Q E hr => G.run A o s H a us vs Q E (hr.mono h)⟩
/-- by the body -/
theorem fnG_of {P : Program} {w : World} {mg : Str → Option Value} {base : Heap} {k : Nat} {f : Addr} {x qual : Str} {params : Arguments} {body : List Stmt} {scope : Scope} {dvs : List V} {kws : List (Str × V)} {fd : FuncData} {N ps : List Str} {sp : Sp}
    (D : FunD K x qual params body scope dvs kws f fd) (S : FnScope N ps scope) (len : ∀ vs H Q E, sp vs H Q E → vs.length = ps.length)
    (hb : ∀ (cdv : Value) (A : Around) (outer : List PySem.Env) (s : Shared) (H : Hp) (vs : List V) (Q : VK) (E : XK), Room k (A.deeper (PyProof.Rows.envOfC qual scope s.heap.objs.size f cdv)) → A.guards = some [] → sp vs H Q E →
      ∃ t, PSs (cxOf (L2.CX P w) P w K mg base N qual scope f cdv A outer s H E) body t ∧ t { nx := fun _ H' => Q .non H', rt := Q } (start N vs) H) : FnG P w K mg base (k + 1) f fd ps sp := by
  obtain ⟨oc, od, dV, kV, doc, pm, an, cdv, ct, osl, rfl, lk, hcd, _, _⟩ := D.ex
  refine ⟨len, fun A outer s H args us vs Q E hr hgd e0 hbind r hsp => ?_⟩
  have inK : K.In s.heap := e0.mod.kin.keeps fun b o e => (e0.bs b o e).1
  have noLim : s.heap.NoLimit := e0.mod.nolimit.keeps fun b o e => (e0.bs b o e).1
  refine codeAny_call_function hr.depth (inK _ _ lk) rfl S.co S.gen rfl (PySem.W.codeRec_of inK hcd) (hbind _ _ _ _ ?_)
  refine wpAny_newFunctionEnv_cells S.kind (fun ⟨n, v⟩ hy => ?_) fun env he s1 x => ?_
  · rcases S.par n (List.of_mem_zip hy).1 with q | q
    · exact .inl q
    · exact .inr ⟨q, PySem.W.cellsFrom_some _ _ _ (.inl q)⟩
  subst he
  refine ⟨noLim.keeps x.toInCall.keep, codeAny_func ?_⟩
  obtain ⟨t, ht, hq⟩ := hb cdv A outer s H vs Q E (hr.deeper _) hgd hsp
  have I := inv_start (CX := L2.CX P w) (E := E) S hr.hd e0 (len _ _ _ _ hsp) r x
  refine wpAny_mono (ht.run [] s1 (start N vs) H _ I hq) (fun fl s' hs => ?_) fun e s' hs => hs
  cases fl with
  | ret u =>
    obtain ⟨v, σ', H', J, rv, q⟩ := hs
    exact ⟨v, H', J.os, J.bare, J.base, J.hok, rv, q⟩
  | next =>
    obtain ⟨σ', H', J, q⟩ := hs
    exact ⟨V.non, H', J.os, J.bare, J.base, J.hok, rfl, q⟩
  | brk =>
    obtain ⟨_, _, _, q⟩ := hs
    exact q.elim
  | cont =>
    obtain ⟨_, _, _, q⟩ := hs
    exact q.elim

section
variable {k : Nat} {f : Addr} {fd : FuncData} {ps ks : List Str} {sp : Sp} {EW : St → XK} {x : Str} {pp pos : Pos} {e : Expr} {es : List Expr} {t tk : TA} {kws : List Keyword}
theorem run_g {pins : List (Addr × Obj)} {s : Shared} {Q : VK} {us : List Value} {zs : List (Str × Value)} {xs : List Value} {ws : List V} (G : FnG X.prog X.w X.K X.mg X.base k f fd ps sp) (hr : Room k X.A) (hgd : X.A.guards = some []) (hx : PassesAt (L2.CX X.prog X.w) X σ (EW σ))
    (I : Inv X pins σ H s) (hb : BindsTo s fd ⟨us, zs⟩ (ps.zip xs)) (r : Vals ws xs) (h : sp ws H Q (EW σ)) : wpAny (model X.prog X.w) X.A (call (.ref f) us zs) (L2.EP X pins σ Q) X.xe s := by
  refine wpAny_call (codeAny_mono (G.run X.A X.stack s H ⟨us, zs⟩ xs ws Q (EW σ) hr hgd I.env0 hb r h) fun o s' hq => ?_)
  cases o with
  | error e => exact hx pins H s e s' I hq
  | ok fl =>
    cases fl with
    | ret u => exact I.after hq
    | next => exact False.elim hq
    | brk => exact False.elim hq
    | cont => exact False.elim hq
theorem pe_callG (G : FnG X.prog X.w X.K X.mg X.base k f fd ps sp) (hr : Room k X.A) (hgd : X.A.guards = some []) (hg : Gl X x) (hm : X.mg x = some (.ref f)) (hk : PySem.W.keepIn X.K (.ref f) = true) (hb : Binds X.K fd ps []) (hx : ∀ σ, PassesAt (L2.CX X.prog X.w) X σ (EW σ))
    (ha : PA X (e :: es) t) (hdb : (x == ("__debug__" : Str)) = false) (he : starEach (e :: es) X.env = (false, eval e X.env) :: starEach es X.env) (hpl : (backTo pos (starEach es X.env)).any (·.1) = false) :
    PE X (.Call (.Name x pp) (e :: es) [] pos) (tCallS sp EW t) := by
  refine ⟨fun pins s σ H Q I h => ?_⟩
  refine wpAny_Call_Name_kw (ld_glob I hg hm ?_ hdb)
  refine PySem.W.callWith_K (h₀ := X.base) I.ok.mod.kin hk (thn (ha.run pos pins s σ H _ I h) fun us s1 ⟨vs, H1, I1, r, q⟩ => ⟨I1.kIn, ?_⟩) he hpl
  have hl : us.length = ps.length := by rw [← r.length]; exact G.len _ _ _ _ q
  have b := hb s1 us I1.kIn (by rw [List.append_nil]; exact hl)
  rw [List.append_nil] at b
  exact run_g G hr hgd (hx σ) I1 b r q
theorem pe_callG0 (G : FnG X.prog X.w X.K X.mg X.base k f fd ps sp) (hr : Room k X.A) (hgd : X.A.guards = some []) (hg : Gl X x) (hm : X.mg x = some (.ref f)) (hk : PySem.W.keepIn X.K (.ref f) = true) (hb : Binds X.K fd ps []) (hx : ∀ σ, PassesAt (L2.CX X.prog X.w) X σ (EW σ))
    (hdb : (x == ("__debug__" : Str)) = false) : PE X (.Call (.Name x pp) [] [] pos) (tCallS sp EW tNil) := by
  refine ⟨fun pins s σ H Q I h => ?_⟩
  refine wpAny_Call_Name_kw (ld_glob I hg hm ?_ hdb)
  have h : sp [] H Q (EW σ) := h
  have b := hb s [] I.kIn (by show 0 = ps.length; exact G.len _ _ _ _ h)
  exact PySem.W.callWith_K0 I.kIn hk (run_g G hr hgd (hx σ) I b .nil h)
/-- the parameters' values out of the given ones -/
def ordV (pl : List Nat) (vs : List V) : List V := pl.map fun j => vs.getD j .non
def ordU (pl : List Nat) (us : List Value) : List Value := pl.map fun j => us.getD j .none
theorem ord_rel (pl : List Nat) {vs : List V} {us : List Value} (r : Vals vs us) : Vals (ordV pl vs) (ordU pl us) := by
  induction pl with
  | nil => exact .nil
  | cons j pl ih =>
    refine .cons ?_ ih
    show RelV (vs.getD j .non) (us.getD j .none)
    rw [List.getD_eq_getElem?_getD, List.getD_eq_getElem?_getD]
    cases e : vs[j]? with
    | some v =>
      obtain ⟨u, hu, ru⟩ := r.get e
      rw [hu]
      exact ru
    | none =>
      have : us[j]? = none := by
        rw [List.getElem?_eq_none_iff] at e ⊢
        rw [← r.length]
        exact e
      rw [this]
      exact rfl
/-- how n values by position and those of the names ks bind -/
def KB (K : PySem.W.Frag) (fd : FuncData) (ps : List Str) (n : Nat) (ks : List Str) (pl : List Nat) : Prop :=
  ∀ (s : Shared) (us ws : List Value), K.In s.heap → us.length = n → ws.length = ks.length → BindsTo s fd ⟨us, ks.zip ws⟩ (ps.zip (ordU pl (us ++ ws)))
def tCallKG (sp : Sp) (EW : St → XK) (n : Nat) (ks : List Str) (pl : List Nat) (t tk : TA) : TE := fun σ H Q => t σ H fun vs H1 => tk σ H1 fun zs H2 => vs.length = n ∧ zs.length = ks.length ∧ sp (ordV pl (vs ++ zs)) H2 Q (EW σ)
theorem pe_callKG {n : Nat} {pl : List Nat} (G : FnG X.prog X.w X.K X.mg X.base k f fd ps sp) (hr : Room k X.A) (hgd : X.A.guards = some []) (hg : Gl X x) (hm : X.mg x = some (.ref f)) (hk : PySem.W.keepIn X.K (.ref f) = true) (hb : KB X.K fd ps n ks pl) (hx : ∀ σ, PassesAt (L2.CX X.prog X.w) X σ (EW σ))
    (ha : PA X (e :: es) t) (hkw : PK X kws tk) (hall : (backToKw pos (keywordEach kws X.env)).all (·.1.isSome) = true) (hks : (backToKw pos (keywordEach kws X.env)).filterMap (·.1) = ks)
    (hdb : (x == ("__debug__" : Str)) = false) (he : starEach (e :: es) X.env = (false, eval e X.env) :: starEach es X.env)
    (hpl : ((backTo pos (starEach (e :: es) X.env)).any (·.1) || (backToKw pos (keywordEach kws X.env)).any (·.1.isNone)) = false) : PE X (.Call (.Name x pp) (e :: es) kws pos) (tCallKG sp EW n ks pl t tk) := by
  refine ⟨fun pins s σ H Q I h => ?_⟩
  refine wpAny_Call_Name_kw (ld_glob I hg hm ?_ hdb)
  refine PySem.W.callWith_KW (h₀ := X.base) I.ok.mod.kin hk hall (thn (ha.run pos pins s σ H _ I h) fun us s1 ⟨vs, H1, I1, r, q⟩ => ?_) hpl he
  refine thn (hkw.run pos pins s1 σ H1 _ I1 q) fun ws s2 ⟨zs, H2, I2, rz, l1, l2, q2⟩ => ⟨I2.kIn, ?_⟩
  rw [hks]
  exact run_g G hr hgd (hx σ) I2 (hb s2 us ws I2.kIn (by rw [← r.length]; exact l1) (by rw [← rz.length]; exact l2)) (ord_rel pl (r.append rz)) q2
theorem pe_callKG0 {pl : List Nat} (G : FnG X.prog X.w X.K X.mg X.base k f fd ps sp) (hr : Room k X.A) (hgd : X.A.guards = some []) (hg : Gl X x) (hm : X.mg x = some (.ref f)) (hk : PySem.W.keepIn X.K (.ref f) = true) (hb : KB X.K fd ps 0 ks pl) (hx : ∀ σ, PassesAt (L2.CX X.prog X.w) X σ (EW σ))
    (hkw : PK X kws tk) (hall : (backToKw pos (keywordEach kws X.env)).all (·.1.isSome) = true) (hks : (backToKw pos (keywordEach kws X.env)).filterMap (·.1) = ks)
    (hdb : (x == ("__debug__" : Str)) = false) (hpl : ((backTo pos (starEach [] X.env)).any (·.1) || (backToKw pos (keywordEach kws X.env)).any (·.1.isNone)) = false) :
    PE X (.Call (.Name x pp) [] kws pos) (tCallKG sp EW 0 ks pl tNil tk) := by
  refine ⟨fun pins s σ H Q I h => ?_⟩
  refine wpAny_Call_Name_kw (ld_glob I hg hm ?_ hdb)
  refine PySem.W.callWith_KW0 (h₀ := X.base) I.ok.mod.kin hk hall ?_ hpl
  have h : tk σ H (fun zs H2 => ([] : List V).length = 0 ∧ zs.length = ks.length ∧ sp (ordV pl ([] ++ zs)) H2 Q (EW σ)) := h
  refine thn (hkw.run pos pins s σ H _ I h) fun ws s2 ⟨zs, H2, I2, rz, l1, l2, q2⟩ => ⟨I2.kIn, ?_⟩
  rw [hks]
  exact run_g G hr hgd (hx σ) I2 (hb s2 [] ws I2.kIn rfl (by rw [← rz.length]; exact l2)) (ord_rel pl rz) q2
end

/-! ### calls of the text's defs -/
theorem call_want {fi : Nat} {kp : List Bool} {Q : VK} (x : PostL g.K g.E ρ σ F H ρ1 rs vs F1 H1) (w : wantE g ρ σ F H (callF Φ fi kp rs ρ1) Q) : spI g.K g.ca g.E (Φ fi) vs H1 Q (WE g.W σ) := by
  unfold callF at w
  cases hl : lend ρ1 rs kp with
  | none =>
    rw [hl] at w
    exact w.elim
  | some q =>
    obtain ⟨ss, ρ2, ls⟩ := q
    rw [hl] at w
    obtain ⟨F2, n, ok, post⟩ := call_post (ρ3 := ρ2) (ps := ρ2) (s := none) (v := .non) (F3 := F) (H3 := H) x hl
    refine ⟨F2, ss, n, ok, ?_⟩
    have w : wantE g ρ σ F H (match Φ fi ss with
      | none => .bad
      | some (.ret s ps) => (match giveBack ρ2 ls ps with
        | some ρ2 => .ok (.val s) ρ2
        | none => .bad)
      | some (.exc c fs ps) => (match giveBack ρ2 ls ps with
        | some ρ2 => .exc c fs ρ2
        | none => .bad)) Q := w
    cases hf : Φ fi ss with
    | none =>
      rw [hf] at w
      exact w
    | some r =>
      rw [hf] at w
      cases r with
      | ret s ps =>
        have w : wantE g ρ σ F H (match giveBack ρ2 ls ps with
          | some ρ2 => .ok (.val s) ρ2
          | none => .bad) Q := w
        cases hgb : giveBack ρ2 ls ps with
        | none =>
          rw [hgb] at w
          exact w.elim
        | some ρ3 =>
          rw [hgb] at w
          exact fun v F3 H3 c => w v F3 H3 (post c hgb)
      | exc c fs ps =>
        have w : wantE g ρ σ F H (match giveBack ρ2 ls ps with
          | some ρ2 => .exc c fs ρ2
          | none => .bad) Q := w
        cases hgb : giveBack ρ2 ls ps with
        | none =>
          rw [hgb] at w
          exact w.elim
        | some ρ3 =>
          rw [hgb] at w
          exact fun cls d F3 H3 c' xc => w cls d F3 H3 (post c' hgb) xc
section
variable {lv : Nat} {x : Str} {f : Addr} {fd : FuncData} {ps ks : List Str} {pp pos : Pos} {e : Expr} {es : List Expr} {kws : List Keyword} {ies iks : List IE} {fi : Nat}
theorem e_callG (tk : Takes X g.W) (G : FnG X.prog X.w X.K X.mg X.base lv f fd ps (spI g.K g.ca g.E (Φ fi))) (hr : Room lv X.A) (hgd : X.A.guards = some []) (hg : Gl X x) (hm : X.mg x = some (.ref f)) (hk : PySem.W.keepIn X.K (.ref f) = true) (hb : Binds X.K fd ps [])
    (ha : ∀ ρ, PA X (e :: es) (rdA g ρ (evEs p Φ ies ρ))) (hdb : (x == ("__debug__" : Str)) = false) (he : starEach (e :: es) X.env = (false, eval e X.env) :: starEach es X.env) (hpl : (backTo pos (starEach es X.env)).any (·.1) = false) (ρ : Env) :
    PE X (.Call (.Name x pp) (e :: es) [] pos) (rdE g ρ (evE p Φ (.call fi ies) ρ)) := by
  refine pe_imp (pe_callG (EW := WE g.W) G hr hgd hg hm hk hb (passAt tk) (ha ρ) hdb he hpl) fun σ H Q h => ?_
  unfold evE at h
  exact rd1A h fun F rs ρ1 vs F1 H1 i x w => call_want x w
theorem e_callG0 (tk : Takes X g.W) (G : FnG X.prog X.w X.K X.mg X.base lv f fd ps (spI g.K g.ca g.E (Φ fi))) (hr : Room lv X.A) (hgd : X.A.guards = some []) (hg : Gl X x) (hm : X.mg x = some (.ref f)) (hk : PySem.W.keepIn X.K (.ref f) = true) (hb : Binds X.K fd ps [])
    (hdb : (x == ("__debug__" : Str)) = false) (ρ : Env) : PE X (.Call (.Name x pp) [] [] pos) (rdE g ρ (evE p Φ (.call fi []) ρ)) := by
  refine pe_imp (pe_callG0 (EW := WE g.W) G hr hgd hg hm hk hb (passAt tk) hdb) fun σ H Q h => ?_
  obtain ⟨F, i, w⟩ := h
  unfold evE evEs at w
  exact call_want (kp := p.kp fi) (PostL.refl i.2) w

/-! by names -/
theorem PostL.place {pl : List Nat} (x : PostL K E ρ σ F H ρ1 rs vs F1 H1) (h : Mini.place rs pl = some qs) (nd : pl.Nodup) : PostL K E ρ σ F H ρ1 qs (ordV pl vs) F1 H1 := by
  have at_ : ∀ (pl : List Nat) (qs : List Rv), Mini.place rs pl = some qs → qs.length = pl.length ∧ ∀ (n j : Nat), pl[n]? = some j → ∃ r v, qs[n]? = some r ∧ rs[j]? = some r ∧ vs[j]? = some v ∧ (ordV pl vs)[n]? = some v := by
    intro pl
    induction pl with
    | nil =>
      intro qs h
      have h : some ([] : List Rv) = some qs := h
      cases h
      exact ⟨rfl, fun n j h => by simp at h⟩
    | cons k pl ih =>
      intro qs h
      unfold Mini.place at h
      rw [List.mapM_cons] at h
      cases e1 : rs[k]? with
      | none =>
        rw [e1] at h
        cases h
      | some r =>
        rw [e1] at h
        have h : (List.mapM (fun j => rs[j]?) pl >>= fun qs => pure (r :: qs)) = some qs := h
        cases e2 : List.mapM (fun j => rs[j]?) pl with
        | none =>
          rw [e2] at h
          cases h
        | some qs' =>
          rw [e2] at h
          have h : some (r :: qs') = some qs := h
          cases h
          obtain ⟨l, a⟩ := ih qs' e2
          refine ⟨by rw [List.length_cons, List.length_cons, l], fun n j hn => ?_⟩
          cases n with
          | zero =>
            have hn : some k = some j := hn
            cases hn
            have hk : k < vs.length := by
              rw [← x.vl]
              exact (List.getElem?_eq_some_iff.mp e1).1
            refine ⟨r, vs[k], rfl, e1, List.getElem?_eq_getElem hk, ?_⟩
            show some (vs.getD k .non) = _
            rw [List.getD_eq_getElem?_getD, List.getElem?_eq_getElem hk]
            rfl
          | succ n =>
            obtain ⟨r', v, h1, h2, h3, h4⟩ := a n j (by simpa using hn)
            exact ⟨r', v, by simpa using h1, h2, h3, by simpa [ordV] using h4⟩
  obtain ⟨l, a⟩ := at_ pl qs h
  let f : Nat ⊕ Nat → Nat ⊕ Nat := fun i => match i with
    | .inl i => .inl i
    | .inr n => .inr (pl.getD n 0)
  have pl_at : ∀ n, tmp qs n ≠ none → pl[n]? = some (pl.getD n 0) := fun n hn => by
    have hl : n < pl.length := by
      rw [← l]
      unfold tmp at hn
      cases e : qs[n]? with
      | none =>
        rw [e] at hn
        exact absurd rfl hn
      | some r => exact (List.getElem?_eq_some_iff.mp e).1
    rw [List.getElem?_eq_getElem hl, List.getD_eq_getElem?_getD, List.getElem?_eq_getElem hl]
    rfl
  have e : ∀ i, Sum.elim (getS ρ1) (tmp qs) i ≠ none → Sum.elim (getS ρ1) (tmp qs) i = Sum.elim (getS ρ1) (tmp rs) (f i) ∧ Sum.elim (gv σ) (vat (ordV pl vs)) i = Sum.elim (gv σ) (vat vs) (f i) := fun i hi => by
    cases i with
    | inl i => exact ⟨rfl, rfl⟩
    | inr n =>
      obtain ⟨r, v, h1, h2, h3, h4⟩ := a n _ (pl_at n hi)
      refine ⟨?_, ?_⟩
      · show tmp qs n = tmp rs (pl.getD n 0)
        unfold tmp
        rw [h1, h2]
      · show (ordV pl vs)[n]? = vs[pl.getD n 0]?
        rw [h4, h3]
  refine ⟨x.ok.part f (fun i j hi hj q => ?_) e, x.stp, fun b hb => ?_, x.len, by rw [l]; unfold ordV; rw [List.length_map], x.som, fun n i hn => ?_⟩
  · cases i with
    | inl i => cases j with
      | inl j => exact q
      | inr m => cases q
    | inr n => cases j with
      | inl j => cases q
      | inr m =>
        have q : pl.getD n 0 = pl.getD m 0 := Sum.inr.inj q
        have h1 := pl_at n hi
        have h2 := pl_at m hj
        rw [q] at h1
        have hn := (List.getElem?_eq_some_iff.mp h1).1
        have hm := (List.getElem?_eq_some_iff.mp h2).1
        rw [(List.getElem?_inj hn nd).mp (h1.trans h2.symm)]
  · obtain ⟨i, ⟨c, hc⟩, hv⟩ := hb
    obtain ⟨e1, e2⟩ := e i (by rw [hc]; exact fun z => nomatch z)
    exact x.lnk b ⟨f i, ⟨c, by rw [← e1, hc]⟩, by rw [← e2, hv]⟩
  · have hl : n < pl.length := by
      rw [← l]
      exact (List.getElem?_eq_some_iff.mp hn).1
    obtain ⟨r, v, h1, h2, h3, h4⟩ := a n _ (List.getElem?_eq_getElem hl)
    rw [hn] at h1
    cases h1
    obtain ⟨s1, s2⟩ := x.slot _ i h2
    refine ⟨?_, s2⟩
    rw [← s1]
    show (ordV pl vs)[n]? = vs[_]?
    rw [h4, h3]
theorem evEs_nil : evEs p Φ [] ρ = .ok [] ρ := by
  unfold evEs
  rfl
theorem evEs_cons {a : IE} {as : List IE} : evEs p Φ (a :: as) ρ = (evE p Φ a ρ).bind fun r ρ => (evEs p Φ as ρ).bind fun rs ρ => .ok (r :: rs) ρ := by
  conv => lhs; unfold evEs
theorem evEs_app : ∀ {as bs : List IE} {ρ : Env}, evEs p Φ (as ++ bs) ρ = (evEs p Φ as ρ).bind fun rs ρ => (evEs p Φ bs ρ).bind fun qs ρ => .ok (rs ++ qs) ρ
  | [], bs, ρ => by
    rw [evEs_nil]
    show evEs p Φ bs ρ = (evEs p Φ bs ρ).bind fun qs ρ => .ok qs ρ
    cases evEs p Φ bs ρ <;> rfl
  | a :: as, bs, ρ => by
    rw [List.cons_append, evEs_cons, evEs_cons]
    cases evE p Φ a ρ with
    | ok r ρ1 =>
      show Res.bind (evEs p Φ (as ++ bs) ρ1) _ = Res.bind (Res.bind (evEs p Φ as ρ1) _) _
      rw [evEs_app]
      cases evEs p Φ as ρ1 with
      | ok rs ρ2 =>
        show Res.bind (Res.bind (evEs p Φ bs ρ2) _) _ = Res.bind (evEs p Φ bs ρ2) _
        cases evEs p Φ bs ρ2 <;> rfl
      | exc c fs ρ2 => rfl
      | bad => rfl
    | exc c fs ρ1 => rfl
    | bad => rfl
/-- keywords' values -/
theorem k_nil (ρ : Env) : PK X [] (rdA g ρ (evEs p Φ [] ρ)) := ⟨fun pos pins s σ H Q I ⟨F, i, w⟩ => by
  unfold evEs at w
  exact pk_nil.run pos pins s σ H Q I (w [] F H (PostL.refl i.2))⟩
theorem pk_imp {t t' : TA} (h : PK X kws t) (i : ∀ σ H Q, t' σ H Q → t σ H Q) : PK X kws t' := ⟨fun pos pins s σ H Q I q => h.run pos pins s σ H Q I (i σ H Q q)⟩
theorem k_cons {nm : Option Str} {kpos : Pos} {ie : IE} (ha : ∀ ρ, PE X e (rdE g ρ (evE p Φ ie ρ))) (hr : ∀ ρ, PK X kws (rdA g ρ (evEs p Φ ies ρ))) (ρ : Env) : PK X (⟨nm, e, kpos⟩ :: kws) (rdA g ρ (evEs p Φ (ie :: ies) ρ)) := by
  have go : ∀ ρ', (∀ r ρ1, evE p Φ ie ρ = .ok r ρ1 → ρ' = ρ1) → PK X (⟨nm, e, kpos⟩ :: kws) (rdA g ρ (evEs p Φ (ie :: ies) ρ)) := fun ρ' hρ => by
    refine pk_imp (pk_cons (ha ρ) (hr ρ')) fun σ H Q h => ?_
    obtain ⟨F, i, w⟩ := h
    refine ⟨F, i, ?_⟩
    unfold evEs at w
    cases ho : evE p Φ ie ρ with
    | bad =>
      rw [ho] at w
      exact w
    | exc c fs ρ1 =>
      rw [ho] at w
      exact w
    | ok r ρ1 =>
      rw [ho] at w
      have e := hρ r ρ1 ho
      subst e
      refine fun v F1 H1 x => ⟨F1, i.post x, ?_⟩
      have w : wantA g ρ σ F H ((evEs p Φ ies ρ').bind fun rs ρ => .ok (r :: rs) ρ) Q := w
      cases hb : evEs p Φ ies ρ' with
      | ok rs ρ2 =>
        rw [hb] at w
        exact fun vs F2 H2 y => w (v :: vs) F2 H2 (x.seq y)
      | exc c fs ρ2 =>
        rw [hb] at w
        exact excOk.back w x
      | bad =>
        rw [hb] at w
        exact w
  cases ho : evE p Φ ie ρ with
  | ok r ρ1 => exact go ρ1 fun r' ρ2 e => by rw [ho] at e; cases e; rfl
  | exc c fs ρ1 => exact go ρ fun r' ρ2 e => by rw [ho] at e; cases e
  | bad => exact go ρ fun r' ρ2 e => by rw [ho] at e; cases e
theorem callk_want {pl : List Nat} {Q : VK} (nd : pl.Nodup) (x : PostL g.K g.E ρ σ F H ρ1 rs vs F1 H1) (w : wantE g ρ σ F H (match Mini.place rs pl with
    | some qs => callF Φ fi (p.kp fi) qs ρ1
    | none => .bad) Q) : spI g.K g.ca g.E (Φ fi) (ordV pl vs) H1 Q (WE g.W σ) := by
  cases e : Mini.place rs pl with
  | none =>
    rw [e] at w
    exact w.elim
  | some qs =>
    rw [e] at w
    exact call_want (x.place e nd) w
theorem e_callk {pl : List Nat} {n : Nat} (tk : Takes X g.W) (G : FnG X.prog X.w X.K X.mg X.base lv f fd ps (spI g.K g.ca g.E (Φ fi))) (hr : Room lv X.A) (hgd : X.A.guards = some []) (hg : Gl X x) (hm : X.mg x = some (.ref f)) (hk : PySem.W.keepIn X.K (.ref f) = true) (hb : KB X.K fd ps n ks pl) (nd : pl.Nodup) (hn : ies.length = n) (hn2 : iks.length = ks.length)
    (ha : ∀ ρ, PA X (e :: es) (rdA g ρ (evEs p Φ ies ρ))) (hkw : ∀ ρ, PK X kws (rdA g ρ (evEs p Φ iks ρ))) (hall : (backToKw pos (keywordEach kws X.env)).all (·.1.isSome) = true) (hks : (backToKw pos (keywordEach kws X.env)).filterMap (·.1) = ks)
    (hdb : (x == ("__debug__" : Str)) = false) (he : starEach (e :: es) X.env = (false, eval e X.env) :: starEach es X.env)
    (hpl : ((backTo pos (starEach (e :: es) X.env)).any (·.1) || (backToKw pos (keywordEach kws X.env)).any (·.1.isNone)) = false) (ρ : Env) :
    PE X (.Call (.Name x pp) (e :: es) kws pos) (rdE g ρ (evE p Φ (.callk fi (ies ++ iks) pl) ρ)) := by
  have go : ∀ ρ', (∀ r ρ1, evEs p Φ ies ρ = .ok r ρ1 → ρ' = ρ1) → PE X (.Call (.Name x pp) (e :: es) kws pos) (rdE g ρ (evE p Φ (.callk fi (ies ++ iks) pl) ρ)) := fun ρ' hρ => by
    refine pe_imp (pe_callKG (EW := WE g.W) G hr hgd hg hm hk hb (passAt tk) (ha ρ) (hkw ρ') hall hks hdb he hpl) fun σ H Q h => ?_
    obtain ⟨F, i, w⟩ := h
    refine ⟨F, i, ?_⟩
    unfold evE at w
    rw [evEs_app] at w
    cases ho : evEs p Φ ies ρ with
    | bad =>
      rw [ho] at w
      exact w
    | exc c fs ρ1 =>
      rw [ho] at w
      exact w
    | ok rs ρ1 =>
      rw [ho] at w
      have e := hρ rs ρ1 ho
      subst e
      refine fun vs F1 H1 x1 => ⟨F1, i.post x1, ?_⟩
      cases hb : evEs p Φ iks ρ' with
      | bad =>
        have w : wantE g ρ σ F H (Res.bind (Res.bind (evEs p Φ iks ρ') _) _) Q := w
        rw [hb] at w
        exact w.elim
      | exc c fs ρ2 =>
        have w : wantE g ρ σ F H (Res.bind (Res.bind (evEs p Φ iks ρ') _) _) Q := w
        rw [hb] at w
        exact excOk.back w x1
      | ok qs ρ2 =>
        have w : wantE g ρ σ F H (Res.bind (Res.bind (evEs p Φ iks ρ') _) _) Q := w
        rw [hb] at w
        refine fun zs F2 H2 x2 => ⟨?_, ?_, ?_⟩
        · rw [← x1.vl, evEs_length ho, hn]
        · rw [← x2.vl, evEs_length hb, hn2]
        · exact callk_want nd (x1.seq x2) w
  cases ho : evEs p Φ ies ρ with
  | ok r ρ1 => exact go ρ1 fun r' ρ2 e => by rw [ho] at e; cases e; rfl
  | exc c fs ρ1 => exact go ρ fun r' ρ2 e => by rw [ho] at e; cases e
  | bad => exact go ρ fun r' ρ2 e => by rw [ho] at e; cases e
theorem e_callk0 {pl : List Nat} (tk : Takes X g.W) (G : FnG X.prog X.w X.K X.mg X.base lv f fd ps (spI g.K g.ca g.E (Φ fi))) (hr : Room lv X.A) (hgd : X.A.guards = some []) (hg : Gl X x) (hm : X.mg x = some (.ref f)) (hk : PySem.W.keepIn X.K (.ref f) = true) (hb : KB X.K fd ps 0 ks pl) (nd : pl.Nodup) (hn2 : iks.length = ks.length)
    (hkw : ∀ ρ, PK X kws (rdA g ρ (evEs p Φ iks ρ))) (hall : (backToKw pos (keywordEach kws X.env)).all (·.1.isSome) = true) (hks : (backToKw pos (keywordEach kws X.env)).filterMap (·.1) = ks)
    (hdb : (x == ("__debug__" : Str)) = false) (hpl : ((backTo pos (starEach [] X.env)).any (·.1) || (backToKw pos (keywordEach kws X.env)).any (·.1.isNone)) = false) (ρ : Env) :
    PE X (.Call (.Name x pp) [] kws pos) (rdE g ρ (evE p Φ (.callk fi iks pl) ρ)) := by
  refine pe_imp (pe_callKG0 (EW := WE g.W) G hr hgd hg hm hk hb (passAt tk) (hkw ρ) hall hks hdb hpl) fun σ H Q h => ?_
  unfold evE at h
  obtain ⟨F, i, w⟩ := h
  refine ⟨F, i, ?_⟩
  cases ho : evEs p Φ iks ρ with
  | bad =>
    rw [ho] at w
    exact w
  | exc c fs ρ1 =>
    rw [ho] at w
    exact w
  | ok rs ρ1 =>
    rw [ho] at w
    refine fun zs F1 H1 x1 => ⟨rfl, ?_, ?_⟩
    · rw [← x1.vl, evEs_length ho, hn2]
    · exact callk_want nd x1 w
end
end Mini
/-! Mini, part O: subscripts, slices, built-in functions, methods of lists, what is walked by enumerate, zip. -/
namespace Mini
open PySem L2
variable {g : Gx} {ρ ρ1 ρ2 ρ3 : Env} {σ σ1 σ2 : St} {F H F1 H1 F2 H2 : Hp} {rs qs : List Rv} {vs us : List V} {X : Cx} {p : Pg} {Φ : Orc}
variable {K : PySem.W.Frag} {E : EP} {B B' : Nat → Bool} {np : Nat}

theorem RpAll.atI : ∀ {vs : List V} {ds : List PyData} {i : Int} {d : PyData}, RpAll K F vs ds → L2.atI ds i = some d → ∃ v, L2.atI vs i = some v ∧ Rp K F v d := by
  intro vs ds i d r h
  unfold L2.atI at h ⊢
  rw [r.length]
  cases e : L2.ixN ds.length i with
  | none =>
    rw [e] at h
    cases h
  | some j =>
    rw [e] at h
    exact r.get h
/-- dict's subscript, by values -/
theorem ix_dict (hu : X.A.units + 1 < cLine) : IxR X (fun x y H Q => ∃ a v, x = .ref a ∧ DGet H a y (some v) ∧ Q v H) := by
  intro value slice pins s σ H x y v u Q I rx ry h hs
  obtain ⟨a, w, rfl, dg, q⟩ := h
  cases rx
  exact PyProof.Rows.tail_any (dict_typeIs I dg) PySem.F.slot_dict_getitem.lookup (d_getItem hu I dg ry fun w' s' I' r' => ⟨w, H, I', r', q⟩) hs
theorem ixr_any (hu : X.A.units + 1 < cLine) : IxR X (rBin X.K ixS) := by
  intro value slice pins s σ H x y v u Q I rx ry h hs
  obtain ⟨F, d, e, z, ex, hd, he, hf, q⟩ := h
  have hf : (ixD d e).map (fun z => Sv.dat z) = some z := hf
  cases hz : ixD d e with
  | none =>
    rw [hz] at hf
    cases hf
  | some c =>
    rw [hz] at hf
    cases hf
    cases d with
    | list ds => cases e with
      | int i =>
        obtain ⟨a, xs, rfl, h1, r1⟩ := hd.lst ex
        obtain ⟨w, hw, rw'⟩ := r1.atI hz
        exact ix_list value slice pins s σ H _ _ v u Q I rx ry ⟨a, xs, i, w, rfl, he.int, h1, hw, q _ F H (.same ex rw')⟩ hs
      | _ => cases hz
    | tuple ds => cases e with
      | int i =>
        obtain ⟨a, xs, rfl, h1, r1⟩ := hd.tup ex
        obtain ⟨w, hw, rw'⟩ := r1.atI hz
        exact ix_tup value slice pins s σ H _ _ v u Q I rx ry ⟨a, xs, i, w, rfl, he.int, h1, hw, q _ F H (.same ex rw')⟩ hs
      | _ => cases hz
    | str t => cases e with
      | int i =>
        have hz : (if fitN t.length = true then (L2.atI t.cps.toList i).map fun c => PyData.str ⟨#[c]⟩ else none) = some c := hz
        cases ft : fitN t.length with
        | false =>
          rw [ft] at hz
          cases hz
        | true =>
          rw [ft] at hz
          obtain ⟨c', hc, rfl⟩ := Option.map_eq_some_iff.mp hz
          exact ix_str value slice pins s σ H _ _ v u Q I rx ry ⟨t, i, c', hd.str, he.int, fit_le ft, hc, str_new ex q⟩ hs
      | _ => cases hz
    | dict kvs =>
      have hz : (if isKey e = true then lookD kvs e else none) = some c := by cases e <;> exact hz
      cases hk : isKey e with
      | false =>
        rw [hk] at hz
        cases hz
      | true =>
        rw [hk] at hz
        obtain ⟨a, w, rfl, dg, rw'⟩ := dget_of ex hd he hk hz
        exact ix_dict hu value slice pins s σ H _ _ v u Q I rx ry ⟨a, w, rfl, dg, q _ F H (.same ex rw')⟩ hs
    | _ => cases hz

/-! ### slices -/
theorem RpAll.cut {xs : List V} {ds : List PyData} (r : RpAll K F xs ds) (lo hi : Option Int) : RpAll K F (L2.cutV xs lo hi) (cutD ds lo hi) := by
  unfold L2.cutV cutD
  rw [r.length]
  exact (r.drop _).take _
def rSlc (K : PySem.W.Frag) : V → Option Int → Option Int → Hp → VK → Prop := fun x lo hi H Q => ∃ F d z, Ex F H ∧ Dv K F H x d ∧ slcD d lo hi = some z ∧ ∀ w F' H', NewV K F H z w F' H' → Q w H'
theorem slr_any : L2.SlR X (rSlc X.K) := by
  intro pins s σ H x v vl vu lo hi sl Q I rx hs pl pu h
  obtain ⟨F, d, z, ex, hd, hf, q⟩ := h
  cases d with
  | list ds =>
    cases hf
    obtain ⟨a, xs, rfl, h1, r1⟩ := hd.lst ex
    exact sl_list pins s σ H _ v vl vu lo hi sl Q I rx hs pl pu ⟨a, xs, rfl, h1, fun p hp => q _ _ _ (.lst ex hp (r1.cut lo hi))⟩
  | tuple ds =>
    cases hf
    obtain ⟨a, xs, rfl, h1, r1⟩ := hd.tup ex
    have p1 := hd.rpT
    refine sl_tupA pins s σ H _ v vl vu lo hi sl Q I rx hs pl pu ⟨a, xs, rfl, h1, fun ⟨e1, e2⟩ => ?_, fun _ p hp => q _ _ _ (.tup ex hp (r1.cut lo hi))⟩
    have e : cutD ds lo hi = ds := by
      unfold cutD
      rw [← r1.length, e1, e2, List.drop_zero, Nat.sub_zero, r1.length, List.take_length]
    rw [e] at q
    exact q _ F H (.same ex p1)
  | str t =>
    obtain ⟨c, rfl⟩ := if_some hf
    exact sl_str pins s σ H x v vl vu lo hi sl Q I rx hs pl pu ⟨t, hd.str, fit_le c, str_new ex q⟩
  | _ => cases hf
def wantO (g : Gx) (ρ : Env) (σ : St) (F H : Hp) (o : Res (Option Int)) (Q : Option Int → Hp → Prop) : Prop := match o with
  | .ok i ρ' => ∀ F' H', PostL g.K g.E ρ σ F H ρ' [] [] F' H' → Q i H'
  | .exc c fs ρ' => excOk g ρ σ F H c fs ρ'
  | .bad => False
def rdO (g : Gx) (ρ : Env) (o : Res (Option Int)) : TO := fun σ H Q => ∃ F, In g ρ σ F H ∧ wantO g ρ σ F H o Q
theorem po_imp {e : Option Expr} {t t' : TO} (h : PO X e t) (i : ∀ σ H Q, t' σ H Q → t σ H Q) : PO X e t' := ⟨fun pins s σ H Q I q => h.run pins s σ H Q I (i σ H Q q)⟩
theorem o_none (ρ : Env) : PO X none (rdO g ρ (evO p Φ none ρ)) := po_imp po_none fun σ H Q ⟨F, i, w⟩ => by
  unfold evO at w
  exact w F H (PostL.refl i.2)
theorem o_some {e : Expr} {ie : IE} (he : ∀ ρ, PE X e (rdE g ρ (evE p Φ ie ρ))) (ρ : Env) : PO X (some e) (rdO g ρ (evO p Φ (some ie) ρ)) := po_imp (po_some (he ρ)) fun σ H Q ⟨F, i, w⟩ => by
  unfold evO at w
  refine ⟨F, i, ?_⟩
  cases ho : evE p Φ ie ρ with
  | bad =>
    rw [ho] at w
    exact w
  | exc c fs ρ1 =>
    rw [ho] at w
    exact w
  | ok r ρ1 =>
    rw [ho] at w
    refine fun v F1 H1 x => ?_
    have w : wantO g ρ σ F H (match partI ρ1 r with
      | some i => .ok (some i) ρ1
      | none => .bad) Q := w
    unfold partI at w
    cases e : r.data ρ1 with
    | none =>
      rw [e] at w
      exact w.elim
    | some d =>
      rw [e] at w
      cases d with
      | int k => exact ⟨k, (x.data1 0 rfl rfl e).int, w F1 H1 x.drop⟩
      | _ => exact w.elim
theorem wantO.back {o : Res (Option Int)} {Q : Option Int → Hp → Prop} (w : wantO g ρ σ F H o Q) (x : PostL g.K g.E ρ σ F H ρ1 rs vs F1 H1) : wantO g ρ1 σ F1 H1 o Q := by
  cases o with
  | ok b ρ2 => exact fun F2 H2 y => w F2 H2 (by have := (x.seq y).drop; exact this)
  | exc c fs ρ2 => exact excOk.back w x
  | bad => exact w
theorem e_slc {a : Expr} {lo hi : Option Expr} {ia : IE} {il ih : Option IE} {p2 pos : Pos} (hK : g.K = X.K) (ha : ∀ ρ, PE X a (rdE g ρ (evE p Φ ia ρ))) (hl : ∀ ρ, PO X lo (rdO g ρ (evO p Φ il ρ))) (hh : ∀ ρ, PO X hi (rdO g ρ (evO p Φ ih ρ))) (ρ : Env) :
    PE X (.Subscript a (.Slice lo hi none p2) pos) (rdE g ρ (evE p Φ (.slc ia il ih) ρ)) := by
  have go : ∀ ρA ρB, (∀ r ρ1, evE p Φ ia ρ = .ok r ρ1 → ρA = ρ1 ∧ ∀ l ρ2, evO p Φ il ρ1 = .ok l ρ2 → ρB = ρ2) → PE X (.Subscript a (.Slice lo hi none p2) pos) (rdE g ρ (evE p Φ (.slc ia il ih) ρ)) := fun ρA ρB hρ => by
    refine pe_imp (pe_slice slr_any (ha ρ) (hl ρA) (hh ρB)) fun σ H Q h => ?_
    obtain ⟨F, i, w⟩ := h
    unfold evE at w
    refine ⟨F, i, ?_⟩
    cases ho : evE p Φ ia ρ with
    | bad =>
      rw [ho] at w
      exact w
    | exc c fs ρ1 =>
      rw [ho] at w
      exact w
    | ok r ρ1 =>
      rw [ho] at w
      obtain ⟨e1, hρ⟩ := hρ r ρ1 ho
      subst e1
      refine fun v F1 H1 x => ⟨F1, i.post x, ?_⟩
      cases hb : evO p Φ il ρA with
      | bad =>
        have w : wantE g ρ σ F H ((evO p Φ il ρA).bind _) Q := w
        rw [hb] at w
        exact w.elim
      | exc c fs ρ2 =>
        have w : wantE g ρ σ F H ((evO p Φ il ρA).bind _) Q := w
        rw [hb] at w
        exact excOk.back w x
      | ok l ρ2 =>
        have w : wantE g ρ σ F H ((evO p Φ il ρA).bind _) Q := w
        rw [hb] at w
        have e2 := hρ l ρ2 hb
        subst e2
        refine fun F2 H2 y => ?_
        have xy : PostL g.K g.E ρ σ F H ρB [r] [v] F2 H2 := x.seq y
        refine ⟨F2, i.post xy, ?_⟩
        cases hc : evO p Φ ih ρB with
        | bad =>
          have w : wantE g ρ σ F H ((evO p Φ ih ρB).bind _) Q := w
          rw [hc] at w
          exact w.elim
        | exc c fs ρ3 =>
          have w : wantE g ρ σ F H ((evO p Φ ih ρB).bind _) Q := w
          rw [hc] at w
          exact excOk.back w xy
        | ok h ρ3 =>
          have w : wantE g ρ σ F H ((evO p Φ ih ρB).bind _) Q := w
          rw [hc] at w
          refine fun F3 H3 z => ?_
          have xyz : PostL g.K g.E ρ σ F H ρ3 [r] [v] F3 H3 := xy.seq z
          have w : wantE g ρ σ F H (svR ρ3 ((r.data ρ3).bind fun x => slcD x l h)) Q := w
          rw [← hK]
          exact want_un xyz w
  cases ho : evE p Φ ia ρ with
  | bad => exact go ρ ρ fun r ρ1 e => by rw [ho] at e; cases e
  | exc c fs ρ1 => exact go ρ ρ fun r ρ1 e => by rw [ho] at e; cases e
  | ok r ρ1 =>
    cases hb : evO p Φ il ρ1 with
    | bad => exact go ρ1 ρ fun r' ρ' e => by rw [ho] at e; cases e; exact ⟨rfl, fun l ρ2 e => by rw [hb] at e; cases e⟩
    | exc c fs ρ2 => exact go ρ1 ρ fun r' ρ' e => by rw [ho] at e; cases e; exact ⟨rfl, fun l ρ2 e => by rw [hb] at e; cases e⟩
    | ok l ρ2 => exact go ρ1 ρ2 fun r' ρ' e => by rw [ho] at e; cases e; exact ⟨rfl, fun l' ρ3 e => by rw [hb] at e; cases e; rfl⟩

/-! ### built-in functions -/
theorem e_bltB {b : Blt} {x : Str} {id : String} {e : Expr} {es : List Expr} {ies : List IE} {pp pos : Pos} (hc : CallR X (.builtin id) (rAny g.K (bltD b))) (hg : Gl X x) (hm : X.mg x = none) (hv : bootBuiltins x = some (.builtin id)) (ha : ∀ ρ, PA X (e :: es) (rdA g ρ (evEs p Φ ies ρ))) (hn : x ≠ "__name__") (hdb : (x == ("__debug__" : Str)) = false)
    (he : starEach (e :: es) X.env = (false, eval e X.env) :: starEach es X.env) (hpl : (backTo pos (starEach es X.env)).any (·.1) = false) (ρ : Env) : PE X (.Call (.Name x pp) (e :: es) [] pos) (rdE g ρ (evE p Φ (.blt b ies) ρ)) := by
  refine pe_imp (pe_callB hc hg hm hv (ha ρ) hn hdb he hpl) fun σ H Q h => ?_
  unfold evE at h
  exact rd1A h fun F rs ρ1 vs F1 H1 i x w => want_any x w
theorem e_bltT {b : Blt} {x : Str} {T : String} {e : Expr} {es : List Expr} {ies : List IE} {pp pos : Pos} (hc : CallR X (.type T) (rAny g.K (bltD b))) (hg : Gl X x) (hm : X.mg x = none) (hv : bootBuiltins x = some (.type T)) (ha : ∀ ρ, PA X (e :: es) (rdA g ρ (evEs p Φ ies ρ))) (hn : x ≠ "__name__") (hdb : (x == ("__debug__" : Str)) = false)
    (he : starEach (e :: es) X.env = (false, eval e X.env) :: starEach es X.env) (hpl : (backTo pos (starEach es X.env)).any (·.1) = false) (ρ : Env) : PE X (.Call (.Name x pp) (e :: es) [] pos) (rdE g ρ (evE p Φ (.blt b ies) ρ)) := by
  refine pe_imp (pe_callTy hc hg hm hv (ha ρ) hn hdb he hpl) fun σ H Q h => ?_
  unfold evE at h
  exact rd1A h fun F rs ρ1 vs F1 H1 i x w => want_any x w
theorem e_bltG {b : Blt} {x : Str} {id : String} {e : Expr} {es : List Expr} {ies : List IE} {pp pos : Pos} (hc : CallR X (.builtin id) (rAny g.K (bltD b))) (hg : Gl X x) (hm : X.mg x = some (.builtin id)) (ha : ∀ ρ, PA X (e :: es) (rdA g ρ (evEs p Φ ies ρ))) (hdb : (x == ("__debug__" : Str)) = false)
    (he : starEach (e :: es) X.env = (false, eval e X.env) :: starEach es X.env) (hpl : (backTo pos (starEach es X.env)).any (·.1) = false) (ρ : Env) : PE X (.Call (.Name x pp) (e :: es) [] pos) (rdE g ρ (evE p Φ (.blt b ies) ρ)) := by
  refine pe_imp (pe_callBfun hc hg hm (ha ρ) hdb he hpl) fun σ H Q h => ?_
  unfold evE at h
  exact rd1A h fun F rs ρ1 vs F1 H1 i x w => want_any x w
/-- one argument -/
theorem any1 {f : Value} {b : Blt} (h : ∀ (F H : Hp) (v : V) (d : PyData) (z : Sv) (Q : VK), Ex F H → Dv X.K F H v d → bltD b [d] = some z → (∀ w F' H', NewV X.K F H z w F' H' → Q w H') → ∀ (pins : List (Addr × Obj)) (s : Shared) (σ : St) (us : List Value), Inv X pins σ H s → Vals [v] us → wpAny (model X.prog X.w) X.A (call f us) (L2.EP X pins σ Q) X.xe s)
    (h0 : bltD b [] = none) (h2 : ∀ d e r, bltD b (d :: e :: r) = none) : CallR X f (rAny X.K (bltD b)) := by
  intro pins s σ H xs us Q I r hh
  obtain ⟨F, ds, z, ex, dv, hf, q⟩ := hh
  cases dv with
  | nil =>
    rw [h0] at hf
    cases hf
  | cons d1 dr => cases dr with
    | nil => exact h F H _ _ z Q ex d1 hf q pins s σ us I r
    | cons d2 dr =>
      rw [h2] at hf
      cases hf
theorem c_len : CallR X (.builtin "len") (rAny X.K (bltD .len)) := any1 (fun F H v d z Q ex hd hf q pins s σ us I r => by
  cases d with
  | list ds =>
    cases hf
    obtain ⟨a, xs, rfl, h1, r1⟩ := hd.lst ex
    exact call_len pins s σ H _ us Q I r ⟨_, ds.length, rfl, .inl ⟨xs, h1, r1.length.symm⟩, int_new ex q⟩
  | tuple ds =>
    cases hf
    obtain ⟨a, xs, rfl, h1, r1⟩ := hd.tup ex
    exact call_len pins s σ H _ us Q I r ⟨_, ds.length, rfl, .inr ⟨xs, h1, r1.length.symm⟩, int_new ex q⟩
  | str t =>
    obtain ⟨c, rfl⟩ := if_some hf
    rw [hd.str] at r
    exact call_len pins s σ H _ us Q I r ⟨_, t.length, rfl, ⟨fit_le c, rfl⟩, int_new ex q⟩
  | dict kvs =>
    cases hf
    obtain ⟨a, rfl, ⟨ks, h1, h2, h3⟩ | ⟨ks, h1, h2, h3⟩⟩ := hd.dict ex
    · obtain ⟨u, rfl, ru⟩ := Vals.one r
      cases ru
      have e : ks.length = kvs.length := by rw [← List.length_map, h2, List.length_map]
      exact d_len I (.inl h1) fun t s' I' => ⟨.int _, H, I', ⟨_, by rw [e]⟩, int_new ex q⟩
    · have e : ks.length = kvs.length := by rw [← List.length_map, h2, List.length_map]
      exact call_len_dT pins s σ H _ us Q I r ⟨a, ks, rfl, h1, by rw [e]; exact int_new ex q⟩
  | _ => cases hf) rfl fun d e r => by cases d <;> rfl
theorem ints_rp : ∀ {ds : List PyData} {vs : List V} {ns : List Int}, intsD ds = some ns → RpAll K F vs ds → vs = ns.map V.int
  | [], _, ns, h, r => by
    cases h
    cases r
    rfl
  | d :: ds, _, ns, h, r => by
    cases r with
    | cons r1 r2 =>
      cases d with
      | int i =>
        obtain ⟨ms, hm, rfl⟩ := Option.map_eq_some_iff.mp (show (intsD ds).map (fun q => i :: q) = some ns from h)
        cases r1
        rw [ints_rp hm r2]
        rfl
      | _ => cases h
theorem bools_rp : ∀ {ds : List PyData} {vs : List V} {ns : List Bool}, boolsD ds = some ns → RpAll K F vs ds → vs = ns.map V.bl
  | [], _, ns, h, r => by
    cases h
    cases r
    rfl
  | d :: ds, _, ns, h, r => by
    cases r with
    | cons r1 r2 =>
      cases d with
      | bool i =>
        obtain ⟨ms, hm, rfl⟩ := Option.map_eq_some_iff.mp (show (boolsD ds).map (fun q => i :: q) = some ns from h)
        cases r1
        rw [bools_rp hm r2]
        rfl
      | _ => cases h
theorem c_sum (hc : X.calm = true) : CallR X (.builtin "sum") (rAny X.K (bltD .sum)) := any1 (fun F H v d z Q ex hd hf q pins s σ us I r => by
  cases d with
  | list ds =>
    obtain ⟨ns, hn, rfl⟩ := Option.map_eq_some_iff.mp (show (intsD ds).map (fun ns => Sv.dat (.int ns.sum)) = some z from hf)
    obtain ⟨a, xs, rfl, h1, r1⟩ := hd.lst ex
    rw [ints_rp hn r1] at h1
    exact cr_sum hc pins s σ H _ us Q I r ⟨a, ns, rfl, h1, int_new ex q⟩
  | _ => cases hf) rfl fun d e r => by cases d <;> rfl
theorem c_all (hc : X.calm = true) : CallR X (.builtin "all") (rAny X.K (bltD .all)) := any1 (fun F H v d z Q ex hd hf q pins s σ us I r => by
  cases d with
  | list ds =>
    obtain ⟨ns, hn, rfl⟩ := Option.map_eq_some_iff.mp (show (boolsD ds).map (fun ns => Sv.dat (.bool (ns.all id))) = some z from hf)
    obtain ⟨a, xs, rfl, h1, r1⟩ := hd.lst ex
    rw [bools_rp hn r1] at h1
    exact cr_all hc pins s σ H _ us Q I r ⟨a, ns, rfl, h1, bool_new ex q⟩
  | _ => cases hf) rfl fun d e r => by cases d <;> rfl
theorem c_any (hc : X.calm = true) : CallR X (.builtin "any") (rAny X.K (bltD .any)) := any1 (fun F H v d z Q ex hd hf q pins s σ us I r => by
  cases d with
  | list ds =>
    obtain ⟨ns, hn, rfl⟩ := Option.map_eq_some_iff.mp (show (boolsD ds).map (fun ns => Sv.dat (.bool (ns.any id))) = some z from hf)
    obtain ⟨a, xs, rfl, h1, r1⟩ := hd.lst ex
    rw [bools_rp hn r1] at h1
    exact cr_any hc pins s σ H _ us Q I r ⟨a, ns, rfl, h1, bool_new ex q⟩
  | _ => cases hf) rfl fun d e r => by cases d <;> rfl
theorem c_abs : CallR X (.builtin "abs") (rAny X.K (bltD .abs)) := any1 (fun F H v d z Q ex hd hf q pins s σ us I r => by
  cases d with
  | int i =>
    cases hf
    rw [hd.int] at r
    exact call_abs pins s σ H _ us Q I r ⟨i, rfl, int_new ex q⟩
  | _ => cases hf) rfl fun d e r => by cases d <;> rfl
theorem c_int : CallR X (.type "int") (rAny X.K (bltD .int)) := any1 (fun F H v d z Q ex hd hf q pins s σ us I r => by
  cases d with
  | int i =>
    cases hf
    rw [hd.int] at r
    exact call_int1 pins s σ H _ us Q I r (.inl ⟨i, rfl, int_new ex q⟩)
  | bool b =>
    cases hf
    rw [hd.bool] at r
    exact call_int1 pins s σ H _ us Q I r (.inr ⟨b, rfl, int_new ex q⟩)
  | _ => cases hf) rfl fun d e r => by cases d <;> rfl
theorem c_list : CallR X (.type "list") (rAny X.K (bltD .list)) := any1 (fun F H v d z Q ex hd hf q pins s σ us I r => by
  cases d with
  | list ds =>
    cases hf
    obtain ⟨a, xs, rfl, h1, r1⟩ := hd.lst ex
    exact call_list_of pins s σ H _ us Q I r ⟨a, xs, rfl, .inl h1, fun l hl => q _ _ _ (.lst ex hl r1)⟩
  | tuple ds =>
    cases hf
    obtain ⟨a, xs, rfl, h1, r1⟩ := hd.tup ex
    exact call_list_of pins s σ H _ us Q I r ⟨a, xs, rfl, .inr h1, fun l hl => q _ _ _ (.lst ex hl r1)⟩
  | _ => cases hf) rfl fun d e r => by cases d <;> rfl
theorem c_tuple : CallR X (.type "tuple") (rAny X.K (bltD .tuple)) := any1 (fun F H v d z Q ex hd hf q pins s σ us I r => by
  cases d with
  | list ds =>
    cases hf
    obtain ⟨a, xs, rfl, h1, r1⟩ := hd.lst ex
    exact call_tuple_of pins s σ H _ us Q I r ⟨a, xs, rfl, .inl ⟨h1, fun l hl => q _ _ _ (.tup ex hl r1)⟩⟩
  | tuple ds =>
    cases hf
    have p1 := hd.rpT
    obtain ⟨a, xs, rfl, h1, r1⟩ := hd.tup ex
    exact call_tuple_of pins s σ H _ us Q I r ⟨a, xs, rfl, .inr ⟨h1, q _ F H (.same ex p1)⟩⟩
  | _ => cases hf) rfl fun d e r => by cases d <;> rfl
/-- two arguments -/
theorem any2 {f : Value} {b : Blt} (h : ∀ (F H : Hp) (v u : V) (d e : PyData) (z : Sv) (Q : VK), Ex F H → Dv X.K F H v d → Dv X.K F H u e → bltD b [d, e] = some z → (∀ w F' H', NewV X.K F H z w F' H' → Q w H') → ∀ (pins : List (Addr × Obj)) (s : Shared) (σ : St) (us : List Value), Inv X pins σ H s → Vals [v, u] us → wpAny (model X.prog X.w) X.A (call f us) (L2.EP X pins σ Q) X.xe s)
    (h0 : bltD b [] = none) (h1 : ∀ d, bltD b [d] = none) (h2 : ∀ d e e' r, bltD b (d :: e :: e' :: r) = none) : CallR X f (rAny X.K (bltD b)) := by
  intro pins s σ H xs us Q I r hh
  obtain ⟨F, ds, z, ex, dv, hf, q⟩ := hh
  cases dv with
  | nil =>
    rw [h0] at hf
    cases hf
  | cons d1 dr => cases dr with
    | nil =>
      rw [h1] at hf
      cases hf
    | cons d2 dr => cases dr with
      | nil => exact h F H _ _ _ _ z Q ex d1 d2 hf q pins s σ us I r
      | cons d3 dr =>
        rw [h2] at hf
        cases hf
theorem maxL_of {n : Int} {ns : List Int} {m : Int} (h : maxL (n :: ns) = some m) : m ∈ n :: ns ∧ ∀ y ∈ n :: ns, y ≤ m := by
  have go : ∀ (ns : List Int) (n : Int), (ns.foldl (fun a b => if b > a then b else a) n) ∈ n :: ns ∧ ∀ y ∈ n :: ns, y ≤ (ns.foldl (fun a b => if b > a then b else a) n) := by
    intro ns
    induction ns with
    | nil => exact fun n => ⟨List.mem_singleton.mpr rfl, fun y hy => by rw [List.mem_singleton.mp hy]; exact Int.le_refl _⟩
    | cons k ns ih =>
      intro n
      obtain ⟨h1, h2⟩ := ih (if k > n then k else n)
      rw [List.foldl_cons]
      refine ⟨?_, fun y hy => ?_⟩
      · rcases List.mem_cons.mp h1 with e | e
        · rw [e]
          split
          · exact List.mem_cons_of_mem _ List.mem_cons_self
          · exact List.mem_cons_self
        · exact List.mem_cons_of_mem _ (List.mem_cons_of_mem _ e)
      · have hs := h2 _ List.mem_cons_self
        have hn : n ≤ (if k > n then k else n) := by split <;> omega
        have hk : k ≤ (if k > n then k else n) := by split <;> omega
        rcases List.mem_cons.mp hy with e | hy
        · subst e
          exact Int.le_trans hn hs
        · rcases List.mem_cons.mp hy with e | hy
          · subst e
            exact Int.le_trans hk hs
          · exact h2 y (List.mem_cons_of_mem _ hy)
  cases h
  exact go ns n
theorem c_max (hc : X.calm = true) : CallR X (.builtin "max") (rAny X.K (bltD .max)) := by
  intro pins s σ H xs us Q I r hh
  obtain ⟨F, ds, z, ex, dv, hf, q⟩ := hh
  cases dv with
  | nil => cases hf
  | cons d1 dr => cases dr with
    | nil =>
      rename_i v d
      cases d with
      | list ds =>
        obtain ⟨ns, hn, hf⟩ := Option.bind_eq_some_iff.mp (show (intsD ds).bind (fun ns => (maxL ns).map fun m => Sv.dat (.int m)) = some z from hf)
        obtain ⟨m, hm, rfl⟩ := Option.map_eq_some_iff.mp hf
        obtain ⟨a, xs, rfl, h1, r1⟩ := d1.lst ex
        rw [ints_rp hn r1] at h1
        cases ns with
        | nil => cases hm
        | cons n ns =>
          obtain ⟨m1, m2⟩ := maxL_of hm
          refine cr_max hc pins s σ H _ us Q I r ⟨a, n :: ns, rfl, h1, Nat.succ_pos _, fun k k1 k2 => ?_⟩
          have e : k = m := by
            have e1 := k2 m m1
            have e2 := m2 k k1
            omega
          subst e
          exact int_new ex q
      | _ => cases hf
    | cons d2 dr => cases dr with
      | nil =>
        rename_i v d u e
        cases d with
        | int i => cases e with
          | int j =>
            cases hf
            rw [d1.int, d2.int] at r
            exact call_max2 hc pins s σ H _ us Q I r ⟨i, j, rfl, int_new ex q⟩
          | _ => cases hf
        | _ => cases hf
      | cons d3 dr =>
        rename_i v d u e v3 e3 vs3 ds3
        cases d <;> cases e <;> cases hf
theorem minL_of {n : Int} {ns : List Int} {m : Int} (h : minL (n :: ns) = some m) : m ∈ n :: ns ∧ ∀ y ∈ n :: ns, m ≤ y := by
  have go : ∀ (ns : List Int) (n : Int), (ns.foldl (fun a b => if b < a then b else a) n) ∈ n :: ns ∧ ∀ y ∈ n :: ns, (ns.foldl (fun a b => if b < a then b else a) n) ≤ y := by
    intro ns
    induction ns with
    | nil => exact fun n => ⟨List.mem_singleton.mpr rfl, fun y hy => by rw [List.mem_singleton.mp hy]; exact Int.le_refl _⟩
    | cons k ns ih =>
      intro n
      obtain ⟨h1, h2⟩ := ih (if k < n then k else n)
      rw [List.foldl_cons]
      refine ⟨?_, fun y hy => ?_⟩
      · rcases List.mem_cons.mp h1 with e | e
        · rw [e]
          split
          · exact List.mem_cons_of_mem _ List.mem_cons_self
          · exact List.mem_cons_self
        · exact List.mem_cons_of_mem _ (List.mem_cons_of_mem _ e)
      · have hs := h2 _ List.mem_cons_self
        have hn : (if k < n then k else n) ≤ n := by split <;> omega
        have hk : (if k < n then k else n) ≤ k := by split <;> omega
        rcases List.mem_cons.mp hy with e | hy
        · subst e
          exact Int.le_trans hs hn
        · rcases List.mem_cons.mp hy with e | hy
          · subst e
            exact Int.le_trans hs hk
          · exact h2 y (List.mem_cons_of_mem _ hy)
  cases h
  exact go ns n
theorem c_min (hc : X.calm = true) : CallR X (.builtin "min") (rAny X.K (bltD .min)) := by
  intro pins s σ H xs us Q I r hh
  obtain ⟨F, ds, z, ex, dv, hf, q⟩ := hh
  cases dv with
  | nil => cases hf
  | cons d1 dr => cases dr with
    | nil =>
      rename_i v d
      cases d with
      | list ds =>
        obtain ⟨ns, hn, hf⟩ := Option.bind_eq_some_iff.mp (show (intsD ds).bind (fun ns => (minL ns).map fun m => Sv.dat (.int m)) = some z from hf)
        obtain ⟨m, hm, rfl⟩ := Option.map_eq_some_iff.mp hf
        obtain ⟨a, xs, rfl, h1, r1⟩ := d1.lst ex
        rw [ints_rp hn r1] at h1
        cases ns with
        | nil => cases hm
        | cons n ns =>
          obtain ⟨m1, m2⟩ := minL_of hm
          refine cr_min hc pins s σ H _ us Q I r ⟨a, n :: ns, rfl, h1, Nat.succ_pos _, fun k k1 k2 => ?_⟩
          have e : k = m := by
            have e1 := k2 m m1
            have e2 := m2 k k1
            omega
          subst e
          exact int_new ex q
      | _ => cases hf
    | cons d2 dr => cases dr with
      | nil =>
        rename_i v d u e
        cases d with
        | int i => cases e with
          | int j =>
            cases hf
            rw [d1.int, d2.int] at r
            exact call_min2 hc pins s σ H _ us Q I r ⟨i, j, rfl, int_new ex q⟩
          | _ => cases hf
        | _ => cases hf
      | cons d3 dr =>
        rename_i v d u e v3 e3 vs3 ds3
        cases d <;> cases e <;> cases hf
theorem c_gcd : CallR X (.builtin "math.gcd") (rAny X.K (bltD .gcd)) := any2 (fun F H v u d e z Q ex hd he hf q pins s σ us I r => by
  cases d with
  | int i => cases e with
    | int j =>
      cases hf
      rw [hd.int, he.int] at r
      exact cr_gcd pins s σ H _ us Q I r ⟨i, j, rfl, int_new ex q⟩
    | _ => cases hf
  | _ => cases hf) rfl (fun d => by cases d <;> rfl) fun d e e' r => by cases d <;> cases e <;> rfl
/-- the table of modules is a dict -/
def SysM (K : PySem.W.Frag) : Prop := ∃ o : Obj, K.lookup sysModules = some o ∧ o.cls = .type "dict"
section
variable {pins : List (Addr × Obj)} {s : Shared}
theorem no_sys {a : Addr} {o : Obj} {T : String} (hm : SysM X.K) (hk : X.K.In s.heap) (h : s.heap.get? a = some o) (hc : o.cls = .type T) (hT : T ≠ "dict") : a ≠ sysModules := fun e => by
  obtain ⟨q, h1, h2⟩ := hm
  have h3 := hk _ _ h1
  rw [← e, h] at h3
  cases h3
  rw [hc] at h2
  cases h2
  exact hT rfl
mutual
theorem Rp.readsE (I : Inv X pins σ H s) (hm : SysM X.K) : ∀ (d : PyData) (v : V) (u : Value), Rp X.K H v d → layE d = true → RelV v u → ∃ as, Reads s.heap u d as ∧ sysModules ∉ as
  | .none, _, _, h, _, r => by
    cases h
    cases r
    exact ⟨_, Reads.none, List.not_mem_nil⟩
  | .bool b, _, _, h, _, r => by
    cases h
    cases r
    exact ⟨_, Reads.bool b, List.not_mem_nil⟩
  | .int i, _, _, h, _, r => by
    cases h
    obtain ⟨t, rfl⟩ := r
    exact ⟨_, Reads.int i t, List.not_mem_nil⟩
  | .str x, _, _, h, _, r => by
    cases h
    obtain ⟨t, rfl⟩ := r
    exact ⟨_, Reads.str x t, List.not_mem_nil⟩
  | .list ds, _, _, h, l, r => by
    cases h with
    | lst hs ha =>
      cases r
      obtain ⟨_, its, n, rv, ho⟩ := hs.ok I
      obtain ⟨as, hr, hn⟩ := Rp.readsAllE I hm ds _ its ha (show layAll ds = true from l) rv
      refine ⟨_, Reads.list ho rfl rfl (by simpa using hr), fun z => ?_⟩
      rcases List.mem_cons.mp z with e | z
      · exact no_sys hm I.kIn ho rfl (by decide) e.symm
      · exact hn z
  | .tuple ds, _, _, h, l, r => by
    have go : ∀ {a : Addr} {xs : List V} {u : Value}, SqT X.K H a xs → RpAll X.K H xs ds → RelV (.ref a) u → ∃ as, Reads s.heap u (.tuple ds) as ∧ sysModules ∉ as := fun {a xs u} hs ha r => by
      cases r
      obtain ⟨its, rv, ⟨o, ho, hc, n, hd⟩, _⟩ := I.tuple hs
      obtain ⟨as, hr, hn⟩ := Rp.readsAllE I hm ds _ its ha (show layAll ds = true from l) rv
      exact ⟨_, Reads.tuple ho hc hd hr, hn⟩
    cases h with
    | tup hs ha => exact go (SqT.of hs) ha r
    | con hs c ha => exact go (.inr hs) ha r
  | .dict kvs, _, _, h, l, r => by
    cases kvs with
    | cons p r => cases l
    | nil =>
      have go : ∀ {a : Addr} {u : Value}, (a == sysModules) = false → (∃ o es ep, s.heap.get? a = some o ∧ o.ExactDict ∧ o.data = .dict es ep ∧ es.toList = []) → RelV (.ref a) u → ∃ as, Reads s.heap u (.dict []) as ∧ sysModules ∉ as := fun {a u} hn ⟨o, es, ep, ho, hx, hd, he⟩ r => by
        cases r
        refine ⟨_, Reads.dict ho hx.1 hd (by rw [he]; exact .nil) (by rw [he]; exact .nil), fun z => ?_⟩
        have z : sysModules ∈ [a] := z
        rw [List.mem_singleton.mp z] at hn
        simp at hn
      cases h with
      | dicK hs hk ha =>
        rename_i a ks
        have e := I.hok _ _ hs
        obtain ⟨_, h1, vs, hv, o, es, ep, ho, hx, hd, hK, hp, hnd⟩ := e
        have ks0 : ks = [] := by
          cases ks with
          | nil => rfl
          | cons _ _ => cases hk
        subst ks0
        cases hv
        refine go h1 ⟨o, es, ep, ho, hx, hd, ?_⟩ r
        cases he : es.toList with
        | nil => rfl
        | cons q qs =>
          rw [he] at hp
          cases hp
      | dicT hs hk ha =>
        rename_i a ks
        have e := I.hok _ _ hs
        obtain ⟨_, h1, xs, hx1, o, es, ep, ho, hx, hd, hp, hnd⟩ := e
        have ks0 : ks = [] := by
          cases ks with
          | nil => rfl
          | cons _ _ => cases hk
        subst ks0
        cases hx1
        exact go h1 ⟨o, es, ep, ho, hx, hd, hp⟩ r
theorem Rp.readsAllE (I : Inv X pins σ H s) (hm : SysM X.K) : ∀ (ds : List PyData) (vs : List V) (us : List Value), RpAll X.K H vs ds → layAll ds = true → Vals vs us → ∃ as, ReadsAll s.heap us ds as ∧ sysModules ∉ as
  | [], _, _, h, _, r => by
    cases h
    cases r
    exact ⟨_, ReadsAll.nil, List.not_mem_nil⟩
  | d :: ds, _, _, h, l, r => by
    obtain ⟨l1, l2⟩ := Bool.and_eq_true_iff.mp (show (layE d && layAll ds) = true from l)
    cases h with
    | cons h1 h2 =>
      cases r with
      | cons r1 r2 =>
        obtain ⟨as, q1, n1⟩ := Rp.readsE I hm d _ _ h1 l1 r1
        obtain ⟨bs, q2, n2⟩ := Rp.readsAllE I hm ds _ _ h2 l2 r2
        exact ⟨_, ReadsAll.cons q1 q2, fun z => (List.mem_append.mp z).elim n1 n2⟩
end
end
theorem c_repr (hm : SysM X.K) (hu : X.A.units + 66 < cLine) (hgd : X.A.guards = some []) : CallR X (.builtin "repr") (rAny X.K (bltD .repr)) := any1 (fun F H v d z Q ex hd hf q pins s σ us I r => by
  have hf : (if (isSeq d && shapeE d && PyData.showable d && decide ((PyData.shown d).length ≤ 1000000)) = true then some (Sv.dat (.str (PyData.shown d))) else none) = some z := hf
  obtain ⟨c, rfl⟩ := if_some hf
  obtain ⟨c, c4⟩ := Bool.and_eq_true_iff.mp c
  obtain ⟨c, c3⟩ := Bool.and_eq_true_iff.mp c
  obtain ⟨c1, c2⟩ := Bool.and_eq_true_iff.mp c
  have c4 := of_decide_eq_true c4
  obtain ⟨c5, c6⟩ := Bool.and_eq_true_iff.mp (show (layE d && decide (d.depth ≤ 64)) = true from c2)
  have c6 := of_decide_eq_true c6
  obtain ⟨u, rfl, ru⟩ := Vals.one r
  have rp := hd.rp ex
  obtain ⟨as, rd, hn⟩ := Rp.readsE I hm d v u rp c5 ru
  have hr : ∃ a, u = .ref a := by
    cases d with
    | list ds =>
      cases rp
      cases ru
      exact ⟨_, rfl⟩
    | tuple ds =>
      cases rp <;> (cases ru; exact ⟨_, rfl⟩)
    | _ => cases c1
  obtain ⟨a, rfl⟩ := hr
  exact repr_of_reads' rd c3 (fun _ => hn) hgd (by omega) (fun _ _ e => e) (fun h' w tk hk => ⟨.str _, H, I.kept (h' := h') (t' := tk) hk, ⟨_, rfl⟩, str_new ex q⟩) (Nat.le_trans c4 line1)) rfl fun d e r => by cases d <;> rfl
end Mini
/-! Mini, part P: containers changed in place, isinstance, displays of dicts, enumerate, zip. -/
namespace Mini
open PySem L2
variable {g : Gx} {ρ ρ1 ρ2 ρ3 : Env} {σ σ1 σ2 : St} {F H F1 H1 F2 H2 : Hp} {rs qs : List Rv} {vs us : List V} {X : Cx} {p : Pg} {Φ : Orc}
variable {K : PySem.W.Frag} {E : EP} {B B' : Nat → Bool} {np : Nat}

/-- a slot's container is written -/
theorem PostL.write {i : Nat} {a : Addr} {o : HO} {c c' : Ct} (x : PostL K E ρ σ F H ρ1 [] [] F1 H1) (hs : getS ρ1 i = some (.own c)) (hv : gv σ i = some (.ref a)) (hc : CtAt K F1 (upd H1 a o) a c') : PostL K E ρ σ F H (ρ1.set i (some (.own c'))) [] [] F1 (upd H1 a o) := by
  have hsome : (getS ρ1 i).isSome = true := by rw [hs]; rfl
  have own0 : Own (getS ρ1) (gv σ) a := ⟨i, ⟨c, hs⟩, hv⟩
  have eq : ∀ j, getS (ρ1.set i (some (.own c'))) j = upS (getS ρ1) i (some (.own c')) j := fun j => by
    rw [getS_set hsome]
    rfl
  have st := (x.st.write hs hv hc).congr eq fun _ => rfl
  refine ⟨st.nil, ⟨x.stp.ex, fun b u h n => ?_, x.stp.grow⟩, fun b hb => ?_, by rw [List.length_set, x.len], rfl, fun j hj => ?_, fun n j h => by simp at h⟩
  · have ne : b ≠ a := fun e => by
      subst e
      rcases x.lnk b (own_sum.mpr (.inl own0)) with h' | h'
      · exact n h'
      · rw [h] at h'
        cases h'
    rw [upd_ne ne]
    exact x.stp.keep b u h n
  · refine x.lnk b (own_sum.mpr (.inl ?_))
    obtain ⟨j, ⟨d, hd⟩, hw⟩ := own_nil hb
    rw [eq] at hd
    unfold upS at hd
    by_cases e : j = i
    · subst e
      exact ⟨j, ⟨c, hs⟩, hw⟩
    · rw [if_neg e] at hd
      exact ⟨j, ⟨d, hd⟩, hw⟩
  · rw [eq]
    unfold upS
    by_cases e : j = i
    · rw [if_pos e]
      rfl
    · rw [if_neg e]
      exact x.som j hj
/-- the slot's list: where it stands -/
theorem own_at {i : Nat} {c : Ct} (x : PostL K E ρ σ F H ρ1 rs vs F1 H1) (hs : getS ρ1 i = some (.own c)) : ∃ a, gv σ i = some (.ref a) ∧ CtAt K F1 H1 a c := by
  obtain ⟨u, hu, a, rfl, _, hc⟩ := x.st.at_ i _ hs
  exact ⟨a, hu, hc⟩
theorem in_own {i : Nat} {c : Ct} (ii : In g ρ σ F H) (hs : getS ρ i = some (.own c)) : ∃ a, σ[i]? = some (some (.ref a)) ∧ gv σ i = some (.ref a) ∧ CtAt g.K F H a c := by
  obtain ⟨u, h1, h2, a, rfl, _, hc⟩ := in_at ii hs
  exact ⟨a, h1, h2, hc⟩
theorem slotL_some {i : Nat} {ds : List PyData} (h : slotL ρ i = some ds) : getS ρ i = some (.own (.lst ds)) := by
  unfold slotL at h
  cases e : getS ρ i with
  | none =>
    rw [e] at h
    cases h
  | some s =>
    rw [e] at h
    cases s with
    | dat d => cases h
    | exc c fs => cases h
    | glt ds => cases h
    | own c => cases c with
      | dic t kvs => cases h
      | lst es =>
        cases h
        rfl
theorem want_nxO {o : Option Env} {D : Ends} (w : wantS g B ρ σ F H (nxO o) D) : ∃ ρ', o = some ρ' ∧ wantS g B ρ σ F H (.nx ρ') D := by
  cases o with
  | none => exact w.elim
  | some ρ' => exact ⟨ρ', rfl, w⟩
theorem want_if {b : Bool} {o : SRes} {D : Ends} (w : wantS g B ρ σ F H (if b = true then o else .bad) D) : b = true ∧ wantS g B ρ σ F H o D := by
  cases b with
  | false => exact w.elim
  | true => exact ⟨rfl, w⟩
theorem list_at {i : Nat} {ds : List PyData} (x : PostL K E ρ σ F H ρ1 rs vs F1 H1) (hs : slotL ρ1 i = some ds) : ∃ a xs, gv σ i = some (.ref a) ∧ H1 a = some (.lst xs) ∧ RpAll K F1 xs ds := by
  obtain ⟨a, h1, xs, h2, r⟩ := own_at x (slotL_some hs)
  exact ⟨a, xs, h1, h2, r⟩
theorem in_list {i : Nat} (ii : In g ρ σ F H) (hs : (slotL ρ i).isSome = true) : ∃ a xs, σ[i]? = some (some (.ref a)) ∧ gv σ i = some (.ref a) ∧ H a = some (.lst xs) := by
  obtain ⟨ds, hd⟩ := Option.isSome_iff_exists.mp hs
  obtain ⟨a, h1, h2, xs, hx, _⟩ := in_own ii (slotL_some hd)
  exact ⟨a, xs, h1, h2, hx⟩
theorem insL_some {i : Nat} {ds es : List PyData} {ρ' : Env} (h : insL ρ i ds es = some ρ') : ∃ j d, es = [.int j, d] ∧ fitN ds.length = true ∧ 0 ≤ j ∧ j ≤ 1000000 ∧ ρ' = ρ.set i (some (.own (.lst (ds.take j.toNat ++ [d] ++ ds.drop j.toNat)))) := by
  unfold insL at h
  split at h
  · obtain ⟨hf, rfl⟩ := if_some h
    obtain ⟨c0, c3⟩ := Bool.and_eq_true_iff.mp hf
    obtain ⟨c1, c2⟩ := Bool.and_eq_true_iff.mp c0
    exact ⟨_, _, rfl, c1, of_decide_eq_true c2, of_decide_eq_true c3, rfl⟩
  · cases h
theorem popL_some {ds ks : List PyData} {q : PyData × List PyData} (h : popL ds ks = some q) : (ks = [] ∧ ds.getLast? = some q.1 ∧ q.2 = ds.dropLast) ∨ ∃ (k : Int) (j : Nat), ks = [.int k] ∧ fitN ds.length = true ∧ L2.ixN ds.length k = some j ∧ ds[j]? = some q.1 ∧ q.2 = ds.eraseIdx j := by
  unfold popL at h
  split at h
  · obtain ⟨d, hd, rfl⟩ := Option.map_eq_some_iff.mp h
    exact .inl ⟨rfl, hd, rfl⟩
  · rename_i k
    cases hf : fitN ds.length with
    | false =>
      rw [hf] at h
      cases h
    | true =>
      rw [hf] at h
      have h : ((L2.ixN ds.length k).bind fun j => ds[j]?.map fun d => (d, ds.eraseIdx j)) = some q := h
      obtain ⟨j, hj, h⟩ := Option.bind_eq_some_iff.mp h
      obtain ⟨d, hd, rfl⟩ := Option.map_eq_some_iff.mp h
      exact .inr ⟨k, j, rfl, rfl, hj, hd, rfl⟩
  · cases h
section
variable {i : Nat} {x : Str} {e ek : Expr} {ie ik : IE} {np' apos cpos pos : Pos}
/-- xs.append(e) -/
theorem s_app (hv : PE X (.Name x np') (tVar i)) (he : ∀ ρ, PE X e (rdE g ρ (evE p Φ ie ρ)))
    (hs1 : starEach (e :: []) X.env = (false, eval e X.env) :: starEach [] X.env) (hbase : attributeBase (.Name x np') "append" X.env (eval (.Name x np') X.env) = eval (.Name x np') X.env)
    (hfew : ((backTo cpos (starEach [e] X.env)).all (fun x => !x.1) && (backToKw cpos (keywordEach [] X.env)).all (fun x => x.1.isSome) && decide (([e] : List Expr).length + ([] : List Keyword).length + (if ([] : List Keyword).isEmpty then 0 else 1) < 30)) = true)
    (hline : (apos.endLine == cpos.line) = true) (hplain : (backTo cpos (starEach [] X.env)).any (·.1) = false) (hs : swapsWith (.Call (.Attribute (.Name x np') "append" apos) [e] [] cpos) none pos.line X.env = pure false) (ρ : Env) :
    PS X (.Expr (.Call (.Attribute (.Name x np') "append" apos) [e] [] cpos) pos) (rdS g B ρ (evS p Φ np (.app i ie) ρ)) := by
  refine ps_imp (ps_expr (pe_bm PySem.F.plainAttrs_list PySem.F.slot_list_append PySem.F.type_list_append mt_append hv (pa_cons (he ρ) pa_nil hs1) hbase hfew hline hs1 hplain) hs) fun D σ H h => ?_
  unfold evS at h
  obtain ⟨F, ii, w⟩ := h
  obtain ⟨h0, w⟩ := want_if w
  obtain ⟨a, xs0, h1, h2, hx0⟩ := in_list ii h0
  refine ⟨_, h1, .inl ⟨rfl, _, SqL.of hx0⟩, rs1 ⟨F, ii, w⟩ fun F r ρ1 v F1 H1 ii x w => ?_⟩
  obtain ⟨ρ', hq, w⟩ := want_nxO w
  obtain ⟨q, ez, hq⟩ := Option.bind_eq_some_iff.mp hq
  obtain ⟨ds, es, hq⟩ := Option.bind_eq_some_iff.mp hq
  obtain ⟨hf, rfl⟩ := if_some hq
  obtain ⟨F2, y, ex, r1⟩ := x.frz (frz_get ez)
  cases r1 with
  | cons r1 _ =>
    obtain ⟨a', xs, h3, hx, rx⟩ := list_at y es
    rw [h2] at h3
    cases h3
    have z := PostL.write (o := .lst (xs ++ [v])) (c' := .lst (ds ++ [q.1])) y (slotL_some es) h2 ⟨_, upd_same, rx.append (.one r1)⟩
    exact ⟨a, xs, v, rfl, rfl, hx, by rw [rx.length]; exact fit_lt hf, w σ F2 _ z.s⟩
/-- xs.extend(e) -/
def rExtR (K : PySem.W.Frag) : V → List V → Hp → VK → Prop := fun x vs H Q => ∃ l b xs zs, x = .ref l ∧ vs = [.ref b] ∧ H l = some (.lst xs) ∧ LstAt K H b zs ∧ xs.length + zs.length ≤ sizeLine ∧ Q .non (upd H l (.lst (xs ++ zs)))
open PySem.Spec PyProof.Rows in
theorem mt_extR : MtM X "list.extend" (rExtR X.K) := by
  intro pins s σ H x vs v us Q I rx rv h
  obtain ⟨l, b, xs, zs, rfl, rfl, hH, hB, hz, q⟩ := h
  cases rx
  obtain ⟨u, rfl, ru⟩ := Vals.one rv
  cases ru
  obtain ⟨_, i1, n1, r1, e1⟩ := I.hok l _ hH
  obtain ⟨_, i2, n2, r2, e2⟩ := hB.ok I
  have l1 := r1.length
  have l2 := r2.length
  have small : ¬ (!i1.toArray.isEmpty && Builtin.List.listTooLong (i1.toArray.size + i2.toArray.size)) = true := by
    rw [notLongL (by rw [List.size_toArray, List.size_toArray]; omega)]
    simp
  refine call_meets F.slot_list_extend ⟨_, e1, rfl⟩ F.entry_list_extend (F.args_list_extend_2 _ _) (AutoSeq1.list_extend_list_list_0 l i1.toArray n1 b i2.toArray n2 small (by rw [List.size_toArray]; omega) (by rw [List.size_toArray, List.size_toArray]; omega)) ⟨e1, e2, ?_⟩
  exact ⟨.non, _, I.lset (its' := i1 ++ i2) hH e1 (by simp) (r1.append r2) (by rw [List.length_append]; omega), rfl, q⟩
theorem s_ext (hK : g.K = X.K) (hv : PE X (.Name x np') (tVar i)) (he : ∀ ρ, PE X e (rdE g ρ (evE p Φ ie ρ)))
    (hs1 : starEach (e :: []) X.env = (false, eval e X.env) :: starEach [] X.env) (hbase : attributeBase (.Name x np') "extend" X.env (eval (.Name x np') X.env) = eval (.Name x np') X.env)
    (hfew : ((backTo cpos (starEach [e] X.env)).all (fun x => !x.1) && (backToKw cpos (keywordEach [] X.env)).all (fun x => x.1.isSome) && decide (([e] : List Expr).length + ([] : List Keyword).length + (if ([] : List Keyword).isEmpty then 0 else 1) < 30)) = true)
    (hline : (apos.endLine == cpos.line) = true) (hplain : (backTo cpos (starEach [] X.env)).any (·.1) = false) (hs : swapsWith (.Call (.Attribute (.Name x np') "extend" apos) [e] [] cpos) none pos.line X.env = pure false) (ρ : Env) :
    PS X (.Expr (.Call (.Attribute (.Name x np') "extend" apos) [e] [] cpos) pos) (rdS g B ρ (evS p Φ np (.ext i ie) ρ)) := by
  refine ps_imp (ps_expr (pe_bm PySem.F.plainAttrs_list PySem.F.slot_list_extend PySem.F.type_list_extend mt_extR hv (pa_cons (he ρ) pa_nil hs1) hbase hfew hline hs1 hplain) hs) fun D σ H h => ?_
  unfold evS at h
  obtain ⟨F, ii, w⟩ := h
  obtain ⟨h0, w⟩ := want_if w
  obtain ⟨a, xs0, h1, h2, hx0⟩ := in_list ii h0
  refine ⟨_, h1, .inl ⟨rfl, _, SqL.of hx0⟩, rs1 ⟨F, ii, w⟩ fun F r ρ1 v F1 H1 ii x w => ?_⟩
  obtain ⟨ρ', hq, w⟩ := want_nxO w
  obtain ⟨d, ez, hq⟩ := Option.bind_eq_some_iff.mp hq
  obtain ⟨ds, es, hq⟩ := Option.bind_eq_some_iff.mp hq
  cases d with
  | list ys =>
    obtain ⟨hf, rfl⟩ := if_some hq
    obtain ⟨a', xs, h3, hx, rx⟩ := list_at x es
    rw [h2] at h3
    cases h3
    obtain ⟨b, zs, rfl, hb, rb⟩ := (x.data1 0 rfl rfl ez).lstR x.ok.sub
    have z := PostL.write (o := .lst (xs ++ zs)) (c' := .lst (ds ++ ys)) x.drop (slotL_some es) h2 ⟨_, upd_same, rx.append rb⟩
    exact ⟨a, b, xs, zs, rfl, rfl, hx, by rw [← hK]; exact hb, by rw [rx.length, rb.length]; exact fit_le hf, w σ F1 _ z.s⟩
  | _ => cases hq
/-- xs.insert(k, e) -/
theorem s_ins (hv : PE X (.Name x np') (tVar i)) (ha : ∀ ρ, PA X [ek, e] (rdA g ρ (evEs p Φ [ik, ie] ρ)))
    (hs1 : starEach (ek :: [e]) X.env = (false, eval ek X.env) :: starEach [e] X.env) (hbase : attributeBase (.Name x np') "insert" X.env (eval (.Name x np') X.env) = eval (.Name x np') X.env)
    (hfew : ((backTo cpos (starEach [ek, e] X.env)).all (fun x => !x.1) && (backToKw cpos (keywordEach [] X.env)).all (fun x => x.1.isSome) && decide (([ek, e] : List Expr).length + ([] : List Keyword).length + (if ([] : List Keyword).isEmpty then 0 else 1) < 30)) = true)
    (hline : (apos.endLine == cpos.line) = true) (hplain : (backTo cpos (starEach [e] X.env)).any (·.1) = false) (hs : swapsWith (.Call (.Attribute (.Name x np') "insert" apos) [ek, e] [] cpos) none pos.line X.env = pure false) (ρ : Env) :
    PS X (.Expr (.Call (.Attribute (.Name x np') "insert" apos) [ek, e] [] cpos) pos) (rdS g B ρ (evS p Φ np (.ins i ik ie) ρ)) := by
  refine ps_imp (ps_expr (pe_bm PySem.F.plainAttrs_list PySem.F.slot_list_insert PySem.F.type_list_insert mt_insert hv (ha ρ) hbase hfew hline hs1 hplain) hs) fun D σ H h => ?_
  unfold evS at h
  obtain ⟨F, ii, w⟩ := h
  obtain ⟨h0, w⟩ := want_if w
  obtain ⟨a, xs0, h1, h2, hx0⟩ := in_list ii h0
  refine ⟨_, h1, .inl ⟨rfl, _, SqL.of hx0⟩, rs1A ⟨F, ii, w⟩ fun F rs ρ1 vs F1 H1 ii x w => ?_⟩
  obtain ⟨ρ', hq, w⟩ := want_nxO w
  obtain ⟨⟨es, ρ2⟩, ez, hq⟩ := Option.bind_eq_some_iff.mp hq
  obtain ⟨ds, e2, hq⟩ := Option.bind_eq_some_iff.mp hq
  obtain ⟨F2, y, ex, r1⟩ := x.frz ez
  obtain ⟨j, d, rfl, c1, c2, c3, rfl⟩ := insL_some hq
  match r1 with
  | .cons (v := v1) q1 (.cons (v := v2) q2 .nil) =>
    cases q1
    obtain ⟨a', xs, h3, hx, rx⟩ := list_at y e2
    rw [h2] at h3
    cases h3
    refine ⟨a, xs, j, v2, rfl, rfl, hx, by rw [rx.length]; exact fit_lt c1, c2, by omega, ?_⟩
    have z := PostL.write (o := .lst (xs.take j.toNat ++ [v2] ++ xs.drop j.toNat)) (c' := .lst (ds.take j.toNat ++ [d] ++ ds.drop j.toNat)) y (slotL_some e2) h2 ⟨_, upd_same, ((rx.take _).append (.one q2)).append (rx.drop _)⟩
    exact w σ F2 _ z.s
/-- xs.pop(), xs.pop(k) -/
theorem want_pop {ks : List PyData} {Q : VK} (x : PostL g.K g.E ρ σ F H ρ1 rs vs F1 H1) (hk : dataAll ρ1 rs = some ks) {ds : List PyData} (es : slotL ρ1 i = some ds) {d : PyData} {ds' : List PyData} {a : Addr} {xs' : List V} {v : V} (h2 : gv σ i = some (.ref a)) (r' : RpAll g.K F1 xs' ds') (r : Rp g.K F1 v d)
    (w : wantE g ρ σ F H (.ok (.val (.dat d)) (ρ1.set i (some (.own (.lst ds'))))) Q) : Q v (upd H1 a (.lst xs')) := by
  have z := PostL.write (o := .lst xs') (c' := .lst ds') x.drop (slotL_some es) h2 ⟨_, upd_same, r'⟩
  exact want_dat w z r
theorem e_pop0 (hv : PE X (.Name x np') (tVar i)) (hbase : attributeBase (.Name x np') "pop" X.env (eval (.Name x np') X.env) = eval (.Name x np') X.env) (hline : (apos.endLine == cpos.line) = true) (ρ : Env) :
    PE X (.Call (.Attribute (.Name x np') "pop" apos) [] [] cpos) (rdE g ρ (evE p Φ (.pop i []) ρ)) := by
  refine pe_imp (pe_bm0 PySem.F.plainAttrs_list PySem.F.slot_list_pop PySem.F.type_list_pop mt_pop hv hbase hline) fun σ H Q h => ?_
  obtain ⟨F, ii, w⟩ := h
  unfold evE at w
  rw [evEs_nil] at w
  cases h0 : slotL ρ i with
  | none =>
    rw [h0] at w
    exact w.elim
  | some ds =>
    rw [h0] at w
    obtain ⟨a, h1, h2, xs, hx, rx⟩ := in_own ii (slotL_some h0)
    refine ⟨_, h1, .inl ⟨rfl, _, SqL.of hx⟩, ?_⟩
    have x := PostL.refl ii.2
    have w : wantE g ρ σ F H (match (slotL ρ i).bind fun ds => popL ds [] with
      | some q => .ok (.val (.dat q.1)) (ρ.set i (some (.own (.lst q.2))))
      | none => .bad) Q := w
    rw [h0] at w
    have w : wantE g ρ σ F H (match ds.getLast?.map fun d => (d, ds.dropLast) with
      | some q => .ok (.val (.dat q.1)) (ρ.set i (some (.own (.lst q.2))))
      | none => .bad) Q := w
    cases hl : ds.getLast? with
    | none =>
      rw [hl] at w
      exact w.elim
    | some d =>
      rw [hl] at w
      rw [List.getLast?_eq_getElem?] at hl
      obtain ⟨v, hv, rv⟩ := rx.get hl
      have hdl : RpAll g.K F xs.dropLast ds.dropLast := by
        rw [List.dropLast_eq_take, List.dropLast_eq_take, rx.length]
        exact rx.take _
      refine ⟨a, xs, v, rfl, rfl, hx, by rw [rx.length]; exact hv, ?_⟩
      exact want_pop x rfl h0 h2 hdl rv w
theorem e_pop1 (hv : PE X (.Name x np') (tVar i)) (he : ∀ ρ, PE X e (rdE g ρ (evE p Φ ie ρ)))
    (hs1 : starEach (e :: []) X.env = (false, eval e X.env) :: starEach [] X.env) (hbase : attributeBase (.Name x np') "pop" X.env (eval (.Name x np') X.env) = eval (.Name x np') X.env)
    (hfew : ((backTo cpos (starEach [e] X.env)).all (fun x => !x.1) && (backToKw cpos (keywordEach [] X.env)).all (fun x => x.1.isSome) && decide (([e] : List Expr).length + ([] : List Keyword).length + (if ([] : List Keyword).isEmpty then 0 else 1) < 30)) = true)
    (hline : (apos.endLine == cpos.line) = true) (hplain : (backTo cpos (starEach [] X.env)).any (·.1) = false) (ρ : Env) :
    PE X (.Call (.Attribute (.Name x np') "pop" apos) [e] [] cpos) (rdE g ρ (evE p Φ (.pop i [ie]) ρ)) := by
  have ha : ∀ ρ, PA X [e] (rdA g ρ (evEs p Φ [ie] ρ)) := a_cons he a_nil hs1
  refine pe_imp (pe_bm PySem.F.plainAttrs_list PySem.F.slot_list_pop PySem.F.type_list_pop mt_popAt hv (ha ρ) hbase hfew hline hs1 hplain) fun σ H Q h => ?_
  obtain ⟨F, ii, w⟩ := h
  unfold evE at w
  cases h0 : (slotL ρ i).isSome with
  | false =>
    rw [h0] at w
    exact w.elim
  | true =>
    rw [h0] at w
    obtain ⟨a, xs0, h1, h2, hx0⟩ := in_list ii h0
    refine ⟨_, h1, .inl ⟨rfl, _, SqL.of hx0⟩, ?_⟩
    have w : wantE g ρ σ F H ((evEs p Φ [ie] ρ).bind fun rs ρ => match (dataAll ρ rs).bind fun ks => (slotL ρ i).bind fun ds => popL ds ks with
      | some q => .ok (.val (.dat q.1)) (ρ.set i (some (.own (.lst q.2))))
      | none => .bad) Q := w
    refine ⟨F, ii, ?_⟩
    cases ho : evEs p Φ [ie] ρ with
    | bad =>
      rw [ho] at w
      exact w
    | exc c fs ρ1 =>
      rw [ho] at w
      exact w
    | ok rs ρ1 =>
    rw [ho] at w
    refine fun vs F1 H1 x => ?_
    have nof : vs.length = 0 → False := fun h => by
      rw [← x.vl, evEs_length ho] at h
      cases h
    have w : wantE g ρ σ F H (match (dataAll ρ1 rs).bind fun ks => (slotL ρ1 i).bind fun ds => popL ds ks with
      | some q => .ok (.val (.dat q.1)) (ρ1.set i (some (.own (.lst q.2))))
      | none => .bad) Q := w
    cases hp : ((dataAll ρ1 rs).bind fun ks => (slotL ρ1 i).bind fun ds => popL ds ks) with
    | none =>
      rw [hp] at w
      exact w.elim
    | some q =>
      rw [hp] at w
      obtain ⟨ks, hk, hp⟩ := Option.bind_eq_some_iff.mp hp
      obtain ⟨ds, es, hp⟩ := Option.bind_eq_some_iff.mp hp
      have dv := x.data hk
      obtain ⟨a', xs, h3, hx, rx⟩ := list_at x es
      rw [h2] at h3
      cases h3
      rcases popL_some hp with ⟨rfl, hd, e2⟩ | ⟨k, j, rfl, hf, hj, hd, e2⟩
      · cases dv
        obtain ⟨d, ds'⟩ := q
        cases e2
        rw [List.getLast?_eq_getElem?] at hd
        obtain ⟨v, hv, rv⟩ := rx.get hd
        have hdl : RpAll g.K F1 xs.dropLast ds.dropLast := by
          rw [List.dropLast_eq_take, List.dropLast_eq_take, rx.length]
          exact rx.take _
        exact (nof rfl).elim
      · obtain ⟨d, ds'⟩ := q
        cases e2
        match dv with
        | .cons d1 .nil =>
          rw [d1.int]
          obtain ⟨v, hv, rv⟩ := rx.get hd
          obtain ⟨q1, q2, q3, q4⟩ := ixN_seq hj
          have hn : ds.length ≤ 1000000 := of_decide_eq_true hf
          refine ⟨a, xs, k, j, v, rfl, rfl, hx, by omega, by omega, by rw [rx.length]; exact q1, hv, ?_⟩
          exact want_pop x hk es h2 (rx.eraseIdx j) rv w
end
end Mini
/-! Mini, part Q: stores to places; isinstance; displays of dicts; index; enumerate, zip. -/
namespace Mini
open PySem L2
variable {g : Gx} {ρ ρ1 ρ2 ρ3 : Env} {σ σ1 σ2 : St} {F H F1 H1 F2 H2 : Hp} {rs qs : List Rv} {vs us : List V} {X : Cx} {p : Pg} {Φ : Orc}
variable {K : PySem.W.Frag} {E : EP} {B B' : Nat → Bool} {np : Nat}

def rSetA : TSet := fun o i v H Q => rSetL o i v H Q ∨ rSetD o i v H Q
theorem set_any (hu : X.A.units + 1 < cLine) : PSet X rSetA := by
  intro pins s σ H o i v ov iv u Q I ro ri rv h
  rcases h with h | h
  · exact set_list pins s σ H o i v ov iv u Q I ro ri rv h
  · exact set_dict hu pins s σ H o i v ov iv u Q I ro ri rv h
theorem in_val {i : Nat} {s : Sv} (ii : In g ρ σ F H) (hs : getS ρ i = some s) : ∃ u, σ[i]? = some (some u) ∧ gv σ i = some u := by
  obtain ⟨u, h1, h2, _⟩ := in_at ii hs
  exact ⟨u, h1, h2⟩
theorem put_some {i : Nat} {kd d : PyData} {ρ' : Env} (h : putAt ρ i kd d = some ρ') :
    (∃ ds j n, getS ρ i = some (.own (.lst ds)) ∧ kd = .int j ∧ L2.ixN ds.length j = some n ∧ ρ' = ρ.set i (some (.own (.lst (ds.set n d))))) ∨
      ∃ t kvs, getS ρ i = some (.own (.dic t kvs)) ∧ isKey kd = true ∧ isTup kd = t ∧ fitN kvs.length = true ∧ ρ' = ρ.set i (some (.own (.dic t (putD kvs kd d)))) := by
  unfold putAt at h
  split at h
  · rename_i ds e
    split at h
    · obtain ⟨n, hn, rfl⟩ := Option.map_eq_some_iff.mp h
      exact .inl ⟨ds, _, n, e, rfl, hn, rfl⟩
    · cases h
  · rename_i t kvs e
    obtain ⟨hf, rfl⟩ := if_some h
    obtain ⟨c0, c3⟩ := Bool.and_eq_true_iff.mp hf
    obtain ⟨c1, c2⟩ := Bool.and_eq_true_iff.mp c0
    exact .inr ⟨t, kvs, e, c1, eq_of_beq c2, c3, rfl⟩
  · cases h
theorem rs1F {o : Res Rv} {f : Rv → Env → SRes} {D : Ends} {R : VK} (ii : In g ρ σ F H) (w : wantS g B ρ σ F H (o.st f) D)
    (k : ∀ r ρ1 v F1 H1, PostL g.K g.E ρ σ F H ρ1 [r] [v] F1 H1 → wantS g B ρ σ F H (f r ρ1) D → R v H1) : rdE g ρ o σ H R := by
  refine ⟨F, ii, ?_⟩
  cases o with
  | ok r ρ1 => exact fun v F1 H1 x => k r ρ1 v F1 H1 x w
  | exc c fs ρ1 => exact exc_sl w
  | bad => exact w
theorem tvar_mono {i : Nat} {σ : St} {H : Hp} {Q Q' : VK} (h : tVar i σ H Q) (m : ∀ v H, Q v H → Q' v H) : tVar i σ H Q' := by
  obtain ⟨v, e, q⟩ := h
  exact ⟨v, e, m _ _ q⟩
theorem wantE.mono {o : Res Rv} {Q Q' : VK} (w : wantE g ρ σ F H o Q) (m : ∀ v H, Q v H → Q' v H) : wantE g ρ σ F H o Q' := by
  cases o with
  | ok r ρ1 => exact fun v F1 H1 x => m _ _ (w v F1 H1 x)
  | exc c fs ρ1 => exact w
  | bad => exact w
theorem ue_mono {ie : IE} {σ : St} {H : Hp} {Q Q' : VK} (h : uE g p Φ ie σ H Q) (m : ∀ v H, Q v H → Q' v H) : uE g p Φ ie σ H Q' := by
  obtain ⟨ρ, F, i, w⟩ := h
  exact ⟨ρ, F, i, w.mono m⟩
theorem dset_mono {o i v : V} {H : Hp} {Q Q' : Hp → Prop} (h : rSetA o i v H Q) (m : ∀ H, Q H → Q' H) : rSetA o i v H Q' := by
  rcases h with ⟨p, xs, k, j, h1, h2, h3, h4, q⟩ | ⟨a, H', h1, h2, q⟩
  · exact .inl ⟨p, xs, k, j, h1, h2, h3, h4, m _ q⟩
  · exact .inr ⟨a, H', h1, h2, m _ q⟩
theorem gsub_mono {i : Nat} {ik : IE} {v : V} {σ : St} {H : Hp} {Q Q' : St → Hp → Prop} (h : gSub (tVar i) (uE g p Φ ik) rSetA v σ H Q) (m : ∀ σ H, Q σ H → Q' σ H) : gSub (tVar i) (uE g p Φ ik) rSetA v σ H Q' :=
  tvar_mono h fun o H1 h => ue_mono h fun iv H2 h => dset_mono h fun H3 q => m _ _ q
theorem sub_read {i : Nat} {ik : IE} {v : V} {d : PyData} {D : Ends} (ii : In g ρ σ F H) (r : Rp g.K F v d) (w : wantS g B ρ σ F H (setAt p Φ i ik d ρ) D) : gSub (tVar i) (uE g p Φ ik) rSetA v σ H D.nx := by
  unfold setAt at w
  cases e0 : getS ρ i with
  | none =>
    rw [e0] at w
    exact w.elim
  | some s0 =>
    rw [e0] at w
    obtain ⟨u0, h1, h2⟩ := in_val ii e0
    have w : wantS g B ρ σ F H ((evE p Φ ik ρ).st fun rk ρ => nxO ((rk.data ρ).bind fun kd => putAt ρ i kd d)) D := w
    refine ⟨u0, h1, ρ, rs1F ii w fun rk ρ1 vk F1 H1 x w => ?_⟩
    obtain ⟨ρ', hq, w⟩ := want_nxO w
    obtain ⟨kd, ek, hq⟩ := Option.bind_eq_some_iff.mp hq
    have dk := x.data1 0 rfl rfl ek
    have r1 := r.mono x.stp.ex
    rcases put_some hq with ⟨ds, j, n, e1, rfl, hn, rfl⟩ | ⟨t, kvs, e1, hk, ht, hf, rfl⟩
    · obtain ⟨a, h3, xs, hx, rx⟩ := own_at x e1
      rw [h2] at h3
      cases h3
      have z := PostL.write (o := .lst (xs.set n v)) (c' := .lst (ds.set n d)) x.drop e1 h2 ⟨_, upd_same, rx.set r1 n⟩
      exact .inl ⟨a, xs, j, n, rfl, dk.int, hx, by rw [rx.length]; exact hn, w σ F1 _ z.s⟩
    · obtain ⟨a, h3, hc⟩ := own_at x e1
      rw [h2] at h3
      cases h3
      have rk := dk.key hk
      cases t with
      | false =>
        obtain ⟨ks, hx, e2, r2⟩ := hc
        obtain ⟨q, rfl, rfl⟩ := key_plain hk ht rk
        obtain ⟨k1, k2⟩ := put_keys (fun _ _ => kD_inj) q e2 r2 r1
        have z := PostL.write (o := .dK (putK ks q v)) (c' := .dic false (putD kvs (kD q) d)) x.drop e1 h2 ⟨_, upd_same, k1, k2⟩
        have hl : ks.length = kvs.length := by rw [← List.length_map, e2, List.length_map]
        exact .inr ⟨a, _, rfl, .inl ⟨ks, q, hx, rfl, by rw [hl]; exact fit_lt hf, rfl⟩, w σ F1 _ z.s⟩
      | true =>
        obtain ⟨ks, hx, e2, r2⟩ := hc
        obtain ⟨b, q, rfl, rfl, hb⟩ := key_tup hk ht rk
        obtain ⟨k1, k2⟩ := put_keys (f := fun z : List Key => PyData.tuple (z.map kD)) kT_inj q e2 r2 r1
        have z := PostL.write (o := .dT (putK ks q v)) (c' := .dic true (putD kvs (.tuple (q.map kD)) d)) x.drop e1 h2 ⟨_, upd_same, k1, k2⟩
        have hl : ks.length = kvs.length := by rw [← List.length_map, e2, List.length_map]
        exact .inr ⟨a, _, rfl, .inr ⟨ks, q, b, hx, rfl, x.ok.sub _ _ hb, by rw [hl]; exact fit_lt hf, rfl⟩, w σ F1 _ z.s⟩
/-- x[k] = e -/
theorem s_setIx {i : Nat} {o ek e : Expr} {ik ie : IE} {tpos pos : Pos} (hv : PE X o (tVar i)) (hk : ∀ ρ, PE X ek (rdE g ρ (evE p Φ ik ρ))) (he : ∀ ρ, PE X e (rdE g ρ (evE p Φ ie ρ))) (hu : X.A.units + 1 < cLine)
    (hsub : ∀ v, assign (.Subscript o ek tpos) X.env v = (do
      let ov ← holding [v] (eval o X.env)
      let iv ← holding [v, ov] (eval ek X.env)
      standAt tpos
      holding [v, ov, iv] (setItem ov iv v)
      release [v, ov, iv] []))
    (hs : swapsWithSole [.Subscript o ek tpos] e pos.line X.env = pure false) (hw : swappedStores [.Subscript o ek tpos] e X.env = pure none) (h1 : (assignEach [.Subscript o ek tpos] X.env).map (·.2) = [assign (.Subscript o ek tpos) X.env]) (ρ : Env) :
    PS X (.Assign [.Subscript o ek tpos] e pos) (rdS g B ρ (evS p Φ np (.setIx i ik ie) ρ)) := by
  refine ps_imp (ps_asg (he ρ) (pg_sub hv (pe_u hk) (set_any hu) hsub) hs hw h1) fun D σ H h => ?_
  unfold evS at h
  obtain ⟨F, ii, w⟩ := h
  refine rs1F ii w fun r ρ1 v F1 H1 x w => ?_
  cases ez : frz ρ1 r with
  | none =>
    rw [ez] at w
    exact w.elim
  | some q =>
    rw [ez] at w
    obtain ⟨F2, y, ex, r1⟩ := x.frz (frz_get ez)
    cases r1 with
    | cons r1 _ => exact sub_read (ii.post y) r1 (wantS.back w y.s)
/-- x[k], y[l] = a, b -/
theorem s_setIx2 {i j : Nat} {o ek o2 el a b : Expr} {ik il ia ib : IE} {t1 t2 pt pos pt2 : Pos} {kt k2 : Nat} (hK : g.K = X.K) (hcalm : X.calm = true) (hv : PE X o (tVar i)) (hk : ∀ ρ, PE X ek (rdE g ρ (evE p Φ ik ρ))) (hv2 : PE X o2 (tVar j)) (hl : ∀ ρ, PE X el (rdE g ρ (evE p Φ il ρ)))
    (ha : ∀ ρ, PA X [a, b] (rdA g ρ (evEs p Φ [ia, ib] ρ))) (hu : X.A.units + 1 < cLine)
    (hs1 : ∀ v, assign (.Subscript o ek t1) X.env v = (do
      let ov ← holding [v] (eval o X.env)
      let iv ← holding [v, ov] (eval ek X.env)
      standAt t1
      holding [v, ov, iv] (setItem ov iv v)
      release [v, ov, iv] []))
    (hs2 : ∀ v, assign (.Subscript o2 el t2) X.env v = (do
      let ov ← holding [v] (eval o2 X.env)
      let iv ← holding [v, ov] (eval el X.env)
      standAt t2
      holding [v, ov, iv] (setItem ov iv v)
      release [v, ov, iv] []))
    (hp1 : (assignEach (.Subscript o ek t1 :: [.Subscript o2 el t2]) X.env).map (·.2) = assign (.Subscript o ek t1) X.env :: (assignEach [.Subscript o2 el t2] X.env).map (·.2))
    (hp2 : (assignEach (.Subscript o2 el t2 :: []) X.env).map (·.2) = assign (.Subscript o2 el t2) X.env :: (assignEach [] X.env).map (·.2))
    (hn : (assignEach [.Subscript o ek t1, .Subscript o2 el t2] X.env).length = 2) (hst : (assignEach [.Subscript o ek t1, .Subscript o2 el t2] X.env).findIdx? (·.1) = none)
    (hs : swapsWithSole [.Tuple [.Subscript o ek t1, .Subscript o2 el t2] kt pt] (.Tuple [a, b] k2 pt2) pos.line X.env = pure false) (hw : swappedStores [.Tuple [.Subscript o ek t1, .Subscript o2 el t2] kt pt] (.Tuple [a, b] k2 pt2) X.env = pure none)
    (h1 : (assignEach [.Tuple [.Subscript o ek t1, .Subscript o2 el t2] kt pt] X.env).map (·.2) = [assign (.Tuple [.Subscript o ek t1, .Subscript o2 el t2] kt pt) X.env]) (ρ : Env) :
    PS X (.Assign [.Tuple [.Subscript o ek t1, .Subscript o2 el t2] kt pt] (.Tuple [a, b] k2 pt2) pos) (rdS g B ρ (evS p Φ np (.setIx2 i ik j il ia ib) ρ)) := by
  refine ps_imp (ps_asg (pe_tup (ha ρ)) (pg_tup hcalm (pgs_cons (pg_sub hv (pe_u hk) (set_any hu) hs1) (pgs_cons (pg_sub hv2 (pe_u hl) (set_any hu) hs2) pgs_nil hp2) hp1) hn hst) hs hw h1) fun D σ H h => ?_
  unfold evS at h
  obtain ⟨F, ii, w⟩ := h
  refine ⟨F, ii, ?_⟩
  cases ho : evEs p Φ [ia, ib] ρ with
  | bad =>
    rw [ho] at w
    exact w
  | exc c fs ρ1 =>
    rw [ho] at w
    exact exc_sl w
  | ok rs ρ1 =>
    rw [ho] at w
    refine fun vs F1 H1 x => ?_
    have w : wantS g B ρ σ F H (match frzAll ρ1 rs with
      | some ([x, y], ρ) => (setAt p Φ i ik x ρ).seq fun ρ => setAt p Φ j il y ρ
      | _ => .bad) D := w
    cases ez : frzAll ρ1 rs with
    | none =>
      rw [ez] at w
      exact w.elim
    | some q =>
      obtain ⟨ds, ρ2⟩ := q
      rw [ez] at w
      obtain ⟨F2, y, ex, r1⟩ := x.frz ez
      have hl2 : ds.length = 2 := by rw [← r1.length, ← x.vl, evEs_length ho]; rfl
      match ds, hl2, r1, w with
      | [d1, d2], _, .cons (v := v1) q1 (.cons (v := v2) q2 .nil), w =>
        refine ⟨by show 2 ≤ sizeLine; decide, fun t ht => ⟨t, [v1, v2], rfl, SqT.of upd_same, rfl, v1, [v2], rfl, ?_⟩⟩
        have y2 : PostS g.K g.E B ρ σ F H ρ2 σ none .non F2 (upd H1 t (.tup [v1, v2])) := (y.s (B := B)).more ht
        have w2 : wantS g B ρ2 σ F2 (upd H1 t (.tup [v1, v2])) ((setAt p Φ i ik d1 ρ2).seq fun ρ => setAt p Φ j il d2 ρ) D := wantS.back w y2
        have s1 := sub_read (p := p) (ii.postS y2) q1 (seq_back w2)
        refine gsub_mono s1 fun σ' H' ⟨ρ', F', _, y3, w3⟩ => ⟨v2, [], rfl, ?_⟩
        have s2 := sub_read (p := p) ((ii.postS y2).postS y3) (q2.mono y3.stp.ex) (wantS.back w3 y3)
        exact gsub_mono s2 fun σ'' H'' q => ⟨rfl, q⟩
end Mini
/-! Mini, part R: isinstance, displays of dicts, index, enumerate, zip. -/
namespace Mini
open PySem L2
variable {g : Gx} {ρ ρ1 ρ2 ρ3 : Env} {σ σ1 σ2 : St} {F H F1 H1 F2 H2 : Hp} {rs qs : List Rv} {vs us : List V} {X : Cx} {p : Pg} {Φ : Orc}
variable {K : PySem.W.Frag} {E : EP} {B B' : Nat → Bool} {np : Nat}

/-! ### isinstance -/
def tyN : Ty → String
  | .int => "int"
  | .bool => "bool"
  | .str => "str"
  | .tuple => "tuple"
  | .list => "list"
  | .dict => "dict"
def tyOf : PyData → String
  | .none => "NoneType"
  | .bool _ => "bool"
  | .int _ => "int"
  | .str _ => "str"
  | .list _ => "list"
  | .tuple _ => "tuple"
  | .dict _ => "dict"
theorem rp_ty {v : V} {d : PyData} (r : Rp K H v d) : TyX K H v (.type (tyOf d)) := by
  cases r with
  | non => exact .base .non
  | bl b => exact .base (.bl b)
  | int i => exact .base (.int i)
  | str x => exact .base (.str x)
  | lst h _ =>
    rcases h with (h | ⟨o, h⟩) | ⟨its, n, h, hz, q⟩
    · exact .base (.lst h)
    · exact .base (.frz h)
    · exact .kList h rfl
  | tup h _ => exact .base (.tup h)
  | con h _ _ =>
    obtain ⟨o, its, n, hk, hc, _⟩ := h
    exact .kTuple hk hc
  | dicK h _ _ => exact .base (.dK h)
  | dicT h _ _ => exact .base (.dT h)
theorem kit_all (d : PyData) (t : Ty) : kitB (tyOf d) (tyN t) = some (isTy t d) := by
  cases d <;> cases t <;> first | rfl | decide +kernel
theorem e_isi {a : Expr} {ia : IE} {t : Ty} {x : Str} {pp p2 pos : Pos} (hK : g.K = X.K) (ha : ∀ ρ, PE X a (rdE g ρ (evE p Φ ia ρ))) (hg : Gl X "isinstance") (hm : X.mg "isinstance" = none) (hg2 : PE X (.Name x p2) (tC (.ty (tyN t))))
    (he : starEach (a :: [.Name x p2]) X.env = (false, eval a X.env) :: starEach [.Name x p2] X.env) (he2 : starEach (.Name x p2 :: []) X.env = (false, eval (.Name x p2) X.env) :: starEach [] X.env) (hpl : (backTo pos (starEach [.Name x p2] X.env)).any (·.1) = false) (ρ : Env) :
    PE X (.Call (.Name "isinstance" pp) [a, .Name x p2] [] pos) (rdE g ρ (evE p Φ (.isi ia t) ρ)) := by
  have hv : bootBuiltins "isinstance" = some (.builtin "isinstance") := by decide +kernel
  refine pe_imp (pe_callB call_isi hg hm hv (pa_cons (ha ρ) (pa_cons hg2 pa_nil he2) he) (by decide) (by decide) he hpl) fun σ H Q h => ?_
  unfold evE at h
  refine rd1 h fun F r ρ1 v F1 H1 i x w => ?_
  cases e : r.data ρ1 with
  | none =>
    rw [e] at w
    exact w.elim
  | some d =>
    rw [e] at w
    have r1 := (x.data1 0 rfl rfl e).rp x.ok.sub
    rw [hK] at r1
    exact ⟨v, .ty (tyN t), .type (tyOf d), .type (tyN t), isTy t d, rfl, .ty _, rp_ty r1, kit_ty (kit_all d t), want_dat w x (.bl _)⟩

/-! ### displays of dicts -/
theorem e_dic0 {pos : Pos} (ρ : Env) : PE X (.Dict [] [] pos) (rdE g ρ (evE p Φ (.dic false []) ρ)) := by
  refine pe_imp pe_dnewK fun σ H Q h => ?_
  obtain ⟨F, i, w⟩ := h
  unfold evE at w
  rw [evEs_nil] at w
  exact fun q hq => want_new w (PostL.refl i.2) ⟨Ex.refl F, ex_upd hq, i.2.sub.trans (ex_upd hq), fun b o h h' => (by rw [h] at h'; cases h'), q, rfl, hq, free_of i.2.sub hq, [], upd_same, rfl, .nil⟩
theorem e_dicT0 {pos : Pos} (ρ : Env) : PE X (.Dict [] [] pos) (rdE g ρ (evE p Φ (.dic true []) ρ)) := by
  refine pe_imp pe_dnewT fun σ H Q h => ?_
  obtain ⟨F, i, w⟩ := h
  unfold evE at w
  rw [evEs_nil] at w
  exact fun q hq => want_new w (PostL.refl i.2) ⟨Ex.refl F, ex_upd hq, i.2.sub.trans (ex_upd hq), fun b o h h' => (by rw [h] at h'; cases h'), q, rfl, hq, free_of i.2.sub hq, [], upd_same, rfl, .nil⟩
theorem In.more {q : Addr} {o : HO} (i : In g ρ σ F H) (hq : H q = none) : In g ρ σ F (upd H q o) := by
  have y : PostS g.K g.E (fun _ => false) ρ σ F H ρ σ none .non F (upd H q o) := (PostS.refl i.2).more hq
  exact ⟨i.1, y.st⟩
theorem PostL.pre {q : Addr} {o : HO} (i : In g ρ σ F H) (hq : H q = none) (x : PostL g.K g.E ρ σ F (upd H q o) ρ1 rs vs F1 H1) : PostL g.K g.E ρ σ F H ρ1 rs vs F1 H1 := by
  have ex : Ex H (upd H q o) := ex_upd hq
  have up : ∀ b, upd H q o b = none → H b = none := fun b h => by
    cases e : H b with
    | none => rfl
    | some u =>
      rw [ex b u e] at h
      cases h
  exact ⟨x.ok, ⟨x.stp.ex, fun b u h n => x.stp.keep b u (ex b u h) n, fun b u h n => (x.stp.grow b u h n).imp (up b) id⟩, fun b h => (x.lnk b h).imp id (up b), x.len, x.vl, x.som, x.slot⟩
/-- the pairs of a display, one after the other -/
def flatP : List (IE × IE) → List IE
  | [] => []
  | (k, v) :: r => k :: v :: flatP r
theorem pairs_read : ∀ {ps : List (IE × IE)} {ρ : Env} {σ : St} {F H : Hp} {Q : List (V × V) → Hp → Prop}, In g ρ σ F H → wantA g ρ σ F H (evEs p Φ (flatP ps) ρ) (fun vs H' => ∀ zs : List (V × V), vs = (zs.map fun z => [z.1, z.2]).flatten → zs.length = ps.length → Q zs H') →
    tPairs (ps.map fun q => (uE g p Φ q.1, uE g p Φ q.2)) σ H Q
  | [], ρ, σ, F, H, Q, i, w => by
    have w : wantA g ρ σ F H (evEs p Φ [] ρ) _ := w
    rw [evEs_nil] at w
    exact w [] F H (PostL.refl i.2) [] rfl rfl
  | (k, v) :: ps, ρ, σ, F, H, Q, i, w => by
    have w : wantA g ρ σ F H (evEs p Φ (k :: v :: flatP ps) ρ) _ := w
    rw [evEs_cons] at w
    refine ⟨ρ, F, i, ?_⟩
    cases ho : evE p Φ k ρ with
    | bad =>
      rw [ho] at w
      exact w
    | exc c fs ρ1 =>
      rw [ho] at w
      exact w
    | ok r ρ1 =>
      rw [ho] at w
      refine fun u F1 H1 x => ⟨ρ1, F1, i.post x, ?_⟩
      have w : wantA g ρ σ F H ((evEs p Φ (v :: flatP ps) ρ1).bind fun rs ρ => .ok (r :: rs) ρ) _ := w
      rw [evEs_cons] at w
      cases ho2 : evE p Φ v ρ1 with
      | bad =>
        rw [ho2] at w
        exact w
      | exc c fs ρ2 =>
        rw [ho2] at w
        exact excOk.back w x
      | ok r2 ρ2 =>
        rw [ho2] at w
        refine fun u2 F2 H2 x2 => ?_
        have xx := x.seq x2
        refine pairs_read (i.post xx) ?_
        have w : wantA g ρ σ F H (((evEs p Φ (flatP ps) ρ2).bind fun rs ρ => .ok (r2 :: rs) ρ).bind fun rs ρ => .ok (r :: rs) ρ) _ := w
        cases ho3 : evEs p Φ (flatP ps) ρ2 with
        | bad =>
          rw [ho3] at w
          exact w
        | exc c fs ρ3 =>
          rw [ho3] at w
          exact excOk.back w xx
        | ok rs ρ3 =>
          rw [ho3] at w
          refine fun vs F3 H3 x3 zs hz hl => ?_
          have w : ∀ ws F' H', PostL g.K g.E ρ σ F H ρ3 (r :: r2 :: rs) ws F' H' → _ := w
          exact w (u :: u2 :: vs) F3 H3 (xx.seq x3) ((u, u2) :: zs) (by rw [hz]; rfl) (by rw [List.length_cons, hl]; rfl)

/-- what was laid ahead becomes a container of its own -/
theorem PostL.adopt {q : Addr} {o o' : HO} {c : Ct} (i : In g ρ σ F H) (hq : H q = none) (x : PostL g.K g.E ρ σ F (upd H q o) ρ1 rs vs F1 H1) (hc : CtAt g.K F1 (upd H1 q o') q c) : PostL g.K g.E ρ σ F H ρ1 [.val (.own c)] [.ref q] F1 (upd H1 q o') := by
  have y := (PostL.pre i hq x).drop
  have i1 := (i.more (o := o) hq)
  have hF : F q = none := free_of i.2.sub hq
  have nP : ¬ Own (getS ρ) (gv σ) q := fun h => by
    obtain ⟨_, u, hu⟩ := i.2.own h
    rw [hq] at hu
    cases hu
  have hF1 : F1 q = none := by
    cases e : F1 q with
    | none => rfl
    | some u =>
      rcases x.stp.grow q u e hF with h | h
      · rw [upd_same] at h
        cases h
      · exact absurd h nP
  have nO : ¬ Own (getS ρ1) (gv σ) q := fun h => by
    rcases x.lnk q (own_sum.mpr (.inl h)) with h | h
    · exact nP h
    · rw [upd_same] at h
      cases h
  have t0 : ∀ (n : Nat) (s : Sv), tmp [Rv.val (.own c)] n = some s → n = 0 ∧ s = .own c := fun n s h => by
    cases n with
    | zero =>
      have h : some (Sv.own c) = some s := h
      cases h
      exact ⟨rfl, rfl⟩
    | succ n =>
      rw [tmp_cons, tmp_nil] at h
      cases h
  have keep : ∀ b u, b ≠ q → H1 b = some u → upd H1 q o' b = some u := fun b u ne h => by rw [upd_ne ne]; exact h
  refine ⟨⟨fun b u h => ?_, fun j z hz => ?_, fun a b w ha hb => ?_⟩, ⟨y.stp.ex, fun b u h n => ?_, y.stp.grow⟩, fun b hb => ?_, y.len, rfl, y.som, fun n k h => ?_⟩
  · exact keep b u (fun e => by rw [e, hF1] at h; cases h) (y.ok.sub b u h)
  · cases j with
    | inl j =>
      obtain ⟨u, hu, s⟩ := y.st.at_ j z hz
      refine ⟨u, hu, ?_⟩
      cases z with
      | dat d => exact s
      | exc c fs => exact s
      | glt ds => exact s
      | own c' =>
        obtain ⟨a, rfl, hn, hc'⟩ := s
        have ne : a ≠ q := fun e => nO ⟨j, ⟨c', hz⟩, by rw [← e]; exact hu⟩
        exact ⟨a, rfl, hn, hc'.keep (Ex.refl _) fun u h => keep a u ne h⟩
    | inr n =>
      obtain ⟨rfl, rfl⟩ := t0 n z hz
      exact ⟨.ref q, rfl, q, rfl, hF1, hc⟩
  · have tq : ∀ n, Owns (tmp [Rv.val (.own c)]) (vat [.ref q]) n w → n = 0 ∧ w = q := fun n ⟨⟨c', h1⟩, h2⟩ => by
      obtain ⟨rfl, _⟩ := t0 n _ h1
      have h2 : some (V.ref q) = some (.ref w) := h2
      cases h2
      exact ⟨rfl, rfl⟩
    cases a with
    | inl a => cases b with
      | inl b => exact congrArg Sum.inl (y.st.inj a b w ha hb)
      | inr n =>
        obtain ⟨_, rfl⟩ := tq n hb
        exact absurd ⟨a, ha⟩ nO
    | inr n => cases b with
      | inl b =>
        obtain ⟨_, rfl⟩ := tq n ha
        exact absurd ⟨b, hb⟩ nO
      | inr m => rw [(tq n ha).1, (tq m hb).1]
  · exact keep b u (fun e => by rw [e, hq] at h; cases h) (y.stp.keep b u h n)
  · rcases own_sum.mp hb with h | ⟨n, ⟨c', h1⟩, h2⟩
    · exact y.lnk b (own_sum.mpr (.inl h))
    · obtain ⟨rfl, _⟩ := t0 n _ h1
      have h2 : some (V.ref q) = some (.ref b) := h2
      cases h2
      exact .inr hq
  · cases n with
    | zero => cases h
    | succ n => simp at h
theorem merge_rel : ∀ {ks more : List (Key × V)} {kvs es : List (PyData × PyData)}, ks.map (fun p => kD p.1) = kvs.map (·.1) → RpAll K F (ks.map (·.2)) (kvs.map (·.2)) → more.map (fun p => kD p.1) = es.map (·.1) → RpAll K F (more.map (·.2)) (es.map (·.2)) →
    (mergeK ks more).map (fun p => kD p.1) = (mergeD kvs es).map (·.1) ∧ RpAll K F ((mergeK ks more).map (·.2)) ((mergeD kvs es).map (·.2))
  | ks, [], kvs, [], h, r, _, _ => ⟨h, r⟩
  | ks, [], kvs, _ :: _, h, r, h2, _ => by cases h2
  | ks, _ :: _, kvs, [], h, r, h2, _ => by cases h2
  | ks, (k, v) :: more, kvs, (d, e) :: es, h, r, h2, r2 => by
    rw [List.map_cons, List.map_cons] at h2
    injection h2 with e1 e2
    rw [List.map_cons, List.map_cons] at r2
    cases r2 with
    | cons q1 q2 =>
      have e1 : kD k = d := e1
      subst e1
      obtain ⟨a1, a2⟩ := put_keys (fun _ _ => kD_inj) k h r q1
      exact merge_rel (ks := putK ks k v) (kvs := putD kvs (kD k) e) a1 a2 e2 q2
theorem kvs_rel : ∀ {ds : List PyData} {kvs : List (PyData × PyData)} {vs : List V}, kvsOf false ds = some kvs → RpAll K F vs ds → ∃ ks : List (Key × V), vs = (ks.map fun z => [kV z.1, z.2]).flatten ∧ ks.map (fun p => kD p.1) = kvs.map (·.1) ∧ RpAll K F (ks.map (·.2)) (kvs.map (·.2)) ∧ ks.length = kvs.length ∧ ds.length = 2 * kvs.length
  | [], kvs, _, h, r => by
    cases h
    cases r
    exact ⟨[], rfl, rfl, .nil, rfl, rfl⟩
  | [_], _, _, h, _ => by cases h
  | k :: d :: ds, kvs, vs, h, r => by
    have h : (if (isKey k && isTup k == false) = true then (kvsOf false ds).map fun q => (k, d) :: q else none) = some kvs := h
    cases hc : (isKey k && isTup k == false) with
    | false =>
      rw [hc] at h
      cases h
    | true =>
      rw [hc] at h
      obtain ⟨c1, c2⟩ := Bool.and_eq_true_iff.mp hc
      obtain ⟨q, hq, rfl⟩ := Option.map_eq_some_iff.mp h
      cases r with
      | cons r1 r => cases r with
        | cons r2 r =>
          obtain ⟨z, rfl, rfl⟩ := key_plain c1 (eq_of_beq c2) r1
          obtain ⟨ks, rfl, a1, a2, a3, a4⟩ := kvs_rel hq r
          exact ⟨(z, _) :: ks, rfl, by rw [List.map_cons, List.map_cons, a1], .cons r2 a2, by rw [List.length_cons, List.length_cons, a3], by rw [List.length_cons, List.length_cons, List.length_cons, a4]; omega⟩
theorem flat_inj : ∀ {a b : List (V × V)}, (a.map fun z => [z.1, z.2]).flatten = (b.map fun z => [z.1, z.2]).flatten → a = b
  | [], [], _ => rfl
  | [], _ :: _, h => by simp at h
  | _ :: _, [], h => by simp at h
  | (a1, a2) :: a, (b1, b2) :: b, h => by
    simp only [List.map_cons, List.flatten_cons, List.cons_append, List.nil_append, List.cons.injEq] at h
    obtain ⟨rfl, rfl, h⟩ := h
    rw [flat_inj h]
theorem e_dic {keys : List (Option Expr)} {values : List Expr} {ps : List (IE × IE)} {pos : Pos} (hps : PPs X pos keys values (ps.map fun q => (uE g p Φ q.1, uE g p Φ q.2))) (hall : keys.all (·.isSome) = true) (hl : keys.length = values.length) (h0 : keys ≠ []) (h15 : keys.length ≤ 15) (hn : ps.length ≤ 15) (ρ : Env) :
    PE X (.Dict keys values pos) (rdE g ρ (evE p Φ (.dic false (flatP ps)) ρ)) := by
  refine pe_imp (pe_disp hps hall hl h0 h15) fun σ H Q h => ?_
  obtain ⟨F, i, w⟩ := h
  unfold evE at w
  refine fun q hq => pairs_read (ρ := ρ) (i.more hq) ?_
  cases ho : evEs p Φ (flatP ps) ρ with
  | bad =>
    rw [ho] at w
    exact w.elim
  | exc c fs ρ1 =>
    rw [ho] at w
    exact fun cls d F' H' y z => w cls d F' H' (PostL.pre i hq y) z
  | ok rs ρ1 =>
    rw [ho] at w
    refine fun vs F1 H1 x zs hz hl2 => ?_
    have nP : ¬ Own (getS ρ) (gv σ) q := fun h => by
      obtain ⟨_, u, hu⟩ := i.2.own h
      rw [hq] at hu
      cases hu
    have hq1 : H1 q = some (.dK []) := x.stp.keep q _ upd_same nP
    have w : wantE g ρ σ F H (match frzAll ρ1 rs with
      | some (ds, ρ) => svR ρ ((kvsOf false ds).map fun kvs => .own (.dic false (mergeD [] kvs)))
      | none => .bad) Q := w
    cases ez : frzAll ρ1 rs with
    | none =>
      rw [ez] at w
      exact w.elim
    | some z =>
      obtain ⟨ds, ρ2⟩ := z
      rw [ez] at w
      obtain ⟨F2, y, ex, r⟩ := x.frz ez
      have w : wantE g ρ σ F H (svR ρ2 ((kvsOf false ds).map fun kvs => .own (.dic false (mergeD [] kvs)))) Q := w
      cases ek : kvsOf false ds with
      | none =>
        rw [ek] at w
        exact w.elim
      | some kvs =>
        rw [ek] at w
        obtain ⟨ks, e1, e2, e3, e4, e5⟩ := kvs_rel ek r
        have hz2 : zs = ks.map fun z => (kV z.1, z.2) := by
          refine flat_inj ?_
          rw [← hz, e1, List.map_map]
          rfl
        have hlen : ks.length ≤ 15 := by
          have : zs.length = ks.length := by rw [hz2, List.length_map]
          omega
        refine ⟨hq1, ks, hz2, hlen, ?_⟩
        obtain ⟨m1, m2⟩ := merge_rel (K := g.K) (F := F2) (ks := []) (kvs := []) rfl .nil e2 e3
        exact w (.ref q) F2 _ (PostL.adopt i hq y ⟨_, upd_same, m1, m2⟩)
theorem pp_cons {k v : Expr} {ks : List (Option Expr)} {vs : List Expr} {ik iv : IE} {ps : List (IE × IE)} {pos : Pos} (hk : ∀ ρ, PE X k (rdE g ρ (evE p Φ ik ρ))) (hv : ∀ ρ, PE X v (rdE g ρ (evE p Φ iv ρ))) (hr : PPs X pos ks vs (ps.map fun q => (uE g p Φ q.1, uE g p Φ q.2))) :
    PPs X pos (some k :: ks) (v :: vs) (((ik, iv) :: ps).map fun q => (uE g p Φ q.1, uE g p Φ q.2)) := pps_cons (pe_u hk) (pe_u hv) hr

/-! ### index -/
theorem index_some : ∀ {xs : List PyData} {y : PyData} {j : Nat}, indexD y xs = some j → ∃ z, xs[j]? = some z ∧ PyData.eqv z y = true ∧ ∀ (m : Nat) z', m < j → xs[m]? = some z' → PyData.eqv z' y = false
  | [], y, j, h => by cases h
  | x :: xs, y, j, h => by
    have h : (if PyData.eqv x y = true then some 0 else (indexD y xs).map (· + 1)) = some j := h
    cases e : PyData.eqv x y with
    | true =>
      rw [e] at h
      cases h
      exact ⟨x, rfl, e, fun m z' hm => by omega⟩
    | false =>
      rw [e] at h
      obtain ⟨k, hk, rfl⟩ := Option.map_eq_some_iff.mp h
      obtain ⟨z, h1, h2, h3⟩ := index_some hk
      refine ⟨z, by simpa using h1, h2, fun m z' hm hz => ?_⟩
      cases m with
      | zero =>
        have hz : some x = some z' := hz
        cases hz
        exact e
      | succ m => exact h3 m z' (by omega) (by simpa using hz)
theorem e_index {a b : Expr} {ia ib : IE} {apos cpos : Pos} (hK : g.K = X.K) (hu : X.A.units + 65 < cLine) (ha : ∀ ρ, PE X a (rdE g ρ (evE p Φ ia ρ))) (hb : ∀ ρ, PE X b (rdE g ρ (evE p Φ ib ρ)))
    (hs1 : starEach (b :: []) X.env = (false, eval b X.env) :: starEach [] X.env) (hbase : attributeBase a "index" X.env (eval a X.env) = eval a X.env)
    (hfew : ((backTo cpos (starEach [b] X.env)).all (fun x => !x.1) && (backToKw cpos (keywordEach [] X.env)).all (fun x => x.1.isSome) && decide (([b] : List Expr).length + ([] : List Keyword).length + (if ([] : List Keyword).isEmpty then 0 else 1) < 30)) = true)
    (hline : (apos.endLine == cpos.line) = true) (hplain : (backTo cpos (starEach [] X.env)).any (·.1) = false) (ρ : Env) :
    PE X (.Call (.Attribute a "index" apos) [b] [] cpos) (rdE g ρ (evE p Φ (.index ia ib) ρ)) := by
  have go : ∀ ρ', (∀ r ρ1, evE p Φ ia ρ = .ok r ρ1 → ρ' = ρ1) → PE X (.Call (.Attribute a "index" apos) [b] [] cpos) (rdE g ρ (evE p Φ (.index ia ib) ρ)) := fun ρ' hρ => by
    refine pe_imp (pe_bm PySem.F.plainAttrs_list PySem.F.slot_list_index PySem.F.type_list_index (mt_indexD hu) (ha ρ) (pa_cons (hb ρ') pa_nil hs1) hbase hfew hline hs1 hplain) fun σ H Q h => ?_
    obtain ⟨F, i, w⟩ := h
    unfold evE at w
    refine ⟨F, i, ?_⟩
    cases ho : evE p Φ ia ρ with
    | bad =>
      rw [ho] at w
      exact w
    | exc c fs ρ1 =>
      rw [ho] at w
      exact w
    | ok r ρ1 =>
      rw [ho] at w
      have e := hρ r ρ1 ho
      subst e
      refine fun v F1 H1 x => ?_
      have w : wantE g ρ σ F H (match r.data ρ' with
        | some (.list _) => (evE p Φ ib ρ').bind fun rb ρ => datR ρ ((r.data ρ).bind fun xs => (rb.data ρ).bind fun y => indexL xs y)
        | _ => .bad) Q := w
      cases ed : r.data ρ' with
      | none =>
        rw [ed] at w
        exact w.elim
      | some d =>
        rw [ed] at w
        cases d with
        | list ds0 =>
          obtain ⟨a0, xs0, rfl, hx0, _⟩ := (x.data1 0 rfl rfl ed).lst x.ok.sub
          refine ⟨.inl ⟨rfl, _, by rw [← hK]; exact hx0⟩, F1, i.post x, ?_⟩
          have w : wantE g ρ σ F H ((evE p Φ ib ρ').bind fun rb ρ => datR ρ ((r.data ρ).bind fun xs => (rb.data ρ).bind fun y => indexL xs y)) Q := w
          cases hob : evE p Φ ib ρ' with
          | bad =>
            rw [hob] at w
            exact w.elim
          | exc c fs ρ2 =>
            rw [hob] at w
            exact excOk.back w x
          | ok rb ρ2 =>
            rw [hob] at w
            refine fun u F2 H2 y => ?_
            have xy : PostL g.K g.E ρ σ F H ρ2 [r, rb] [.ref a0, u] F2 H2 := x.seq y
            have w : wantE g ρ σ F H (datR ρ2 ((r.data ρ2).bind fun xs => (rb.data ρ2).bind fun y => indexL xs y)) Q := w
            cases hz : ((r.data ρ2).bind fun xs => (rb.data ρ2).bind fun y => indexL xs y) with
            | none =>
              rw [hz] at w
              exact w.elim
            | some z =>
              rw [hz] at w
              obtain ⟨dl, e1, hz⟩ := Option.bind_eq_some_iff.mp hz
              obtain ⟨dy, e2, hz⟩ := Option.bind_eq_some_iff.mp hz
              cases dl with
              | list ds =>
                have hz : (if (shapedD dy && shapedD (.list ds)) = true then (indexD dy ds).map fun (j : Nat) => PyData.int (j : Int) else none) = some z := hz
                cases hc : (shapedD dy && shapedD (.list ds)) with
                | false =>
                  rw [hc] at hz
                  cases hz
                | true =>
                  rw [hc] at hz
                  obtain ⟨c1, c2⟩ := Bool.and_eq_true_iff.mp hc
                  obtain ⟨j, hj, rfl⟩ := Option.map_eq_some_iff.mp hz
                  obtain ⟨zz, j1, j2, j3⟩ := index_some hj
                  have dl := (xy.data1 0 rfl rfl e1).dp xy.ok.sub c2
                  have dy' := (xy.data1 1 rfl rfl e2).dp xy.ok.sub c1
                  rw [hK] at dl dy'
                  exact ⟨a0, u, dy, ds, j, zz, rfl, rfl, dl, dy', c2, c1, j1, j2, fun m z' hm hz' => j3 m z' hm hz', want_dat w xy (.int _)⟩
              | _ => cases hz
        | _ => exact w.elim
  cases ho : evE p Φ ia ρ with
  | ok r ρ1 => exact go ρ1 fun r' ρ2 e => by rw [ho] at e; cases e; rfl
  | exc c fs ρ1 => exact go ρ fun r' ρ2 e => by rw [ho] at e; cases e
  | bad => exact go ρ fun r' ρ2 e => by rw [ho] at e; cases e

/-! ### enumerate, zip -/
theorem getElem?_enum {xs : List PyData} {i : Nat} {d : PyData} (h : (enumD xs)[i]? = some d) : ∃ x, xs[i]? = some x ∧ d = .tuple [.int (i : Int), x] := by
  unfold enumD at h
  rw [List.getElem?_zipWith] at h
  by_cases hi : i < xs.length
  · rw [List.getElem?_range hi, List.getElem?_eq_getElem hi] at h
    cases h
    exact ⟨xs[i], List.getElem?_eq_getElem hi, rfl⟩
  · rw [List.getElem?_eq_none (by simpa using hi)] at h
    cases h
theorem enum_length {xs : List PyData} : (enumD xs).length = xs.length := by
  unfold enumD
  rw [List.length_zipWith, List.length_range, Nat.min_self]
theorem sq_item {a : Addr} {xs : List V} {x : V} {i : Nat} (h : SqL K H a xs) (hx : xs[i]? = some x) (all : ∀ xs, SqL K H a xs → xs[i]? = some x) : True := trivial
theorem sqL_of {a : Addr} {ds : List PyData} (x : Rp K F (.ref a) (.list ds)) : ∃ xs, SqL K F a xs ∧ RpAll K F xs ds := by
  cases x with
  | lst h r => exact ⟨_, h.sq, r⟩
theorem sqT_of {a : Addr} {ds : List PyData} (x : Rp K F (.ref a) (.tuple ds)) : ∃ xs, SqT K F a xs ∧ RpAll K F xs ds := by
  cases x with
  | tup h r => exact ⟨_, SqT.of h, r⟩
  | con h c r => exact ⟨_, .inr h, r⟩
theorem itm_enum {a : Addr} {xs : List V} {ds : List PyData} {F0 : Hp} (h : SqL K F0 a xs) (r : RpAll K F0 xs ds) : Itm K (Ite K a) (enumD ds) (fun F _ => Ex F0 F) := by
  refine ⟨fun F H i d e ha hi => ?_, fun F H i e ha hi => ?_⟩
  · obtain ⟨x, hx, rfl⟩ := getElem?_enum hi
    obtain ⟨v, hv, rv⟩ := r.get hx
    refine ⟨⟨xs, v, sqL_ex (ha.trans e) h, hv⟩, fun w H' hw => ?_⟩
    obtain ⟨T, u, rfl, hT, rfl, all⟩ := hw
    have := all xs (sqL_ex (ha.trans e) h)
    rw [hv] at this
    cases this
    exact ⟨_, .tup e hT (.cons (.int _) (.cons (rv.mono ha) .nil))⟩
  · rw [enum_length] at hi
    exact ⟨xs, sqL_ex (ha.trans e) h, by rw [r.length]; exact hi⟩
theorem i_enum {a : Expr} {ia : IE} {elts : List Expr} {kk : Nat} {pp pos tpos : Pos} (hK : g.K = X.K) (hg : Gl X "enumerate") (hm : X.mg "enumerate" = none) (ha : ∀ ρ, PE X a (rdE g ρ (evE p Φ ia ρ))) (hs : starEach [a] X.env = [(false, eval a X.env)]) (hs1 : starEach (a :: []) X.env = (false, eval a X.env) :: starEach [] X.env) (ρ : Env) :
    PI X (.Tuple elts kk tpos) (.Call (.Name "enumerate" pp) [a] [] pos) (rdI g ρ (evI p Φ (.enum ia) ρ)) := by
  refine pi_imp (pi_enum hg hm (pa_cons (ha ρ) pa_nil hs1) hs) fun σ H R h => ?_
  obtain ⟨F, i, w⟩ := h
  unfold evI at w
  refine ⟨F, i, ?_⟩
  cases ho : evE p Φ ia ρ with
  | bad =>
    rw [ho] at w
    exact w
  | exc c fs ρ1 =>
    rw [ho] at w
    exact w
  | ok r ρ1 =>
    rw [ho] at w
    refine fun v F1 H1 x => ?_
    rw [← hK]
    have fin : ∀ {ds : List PyData} {ρ2 : Env} {F2 : Hp}, PostL g.K g.E ρ σ F H ρ2 [] [] F2 H1 → Rp g.K F2 v (.list ds) → wantI g ρ σ F H (.ok (enumD ds, none) ρ2) R → ∃ a xs, ([v] : List V) = [.ref a] ∧ SqL g.K H1 a xs ∧ R (Ite g.K a) H1 := fun {ds ρ2 F2} y q w => by
      obtain ⟨a, xs, rfl, hs, rr⟩ := q.lstE
      exact ⟨a, xs, rfl, sqL_ex y.ok.sub hs, w _ none F2 H1 y rfl (itm_enum hs rr)⟩
    cases r with
    | slot j =>
      have w : wantI g ρ σ F H (match getS ρ1 j with
        | some (.own (.lst ds)) => .ok (enumD ds, none) (ρ1.set j (some (.dat (.list ds))))
        | _ => .bad) R := w
      cases e : getS ρ1 j with
      | none =>
        rw [e] at w
        exact w.elim
      | some s => cases s with
        | dat d =>
          rw [e] at w
          exact w.elim
        | exc c fs =>
          rw [e] at w
          exact w.elim
        | glt ds =>
          rw [e] at w
          exact w.elim
        | own c => cases c with
          | dic t kvs =>
            rw [e] at w
            exact w.elim
          | lst ds =>
            rw [e] at w
            have ez : frz ρ1 (.slot j) = some (.list ds, ρ1.set j (some (.dat (.list ds)))) := by
              show ((getS ρ1 j).bind Sv.data).map (fun d => (d, ρ1.set j (some (.dat d)))) = _
              rw [e]
              rfl
            obtain ⟨F2, y, ex, q⟩ := x.frz (frz_get ez)
            cases q with
            | cons q _ => exact fin y q w
    | val s =>
      have w : wantI g ρ σ F H (match (Rv.val s).data ρ1 with
        | some (.list xs) => .ok (enumD xs, none) ρ1
        | _ => .bad) R := w
      cases e : (Rv.val s).data ρ1 with
      | none =>
        rw [e] at w
        exact w.elim
      | some d =>
        rw [e] at w
        cases d with
        | list ds =>
          have ez : frz ρ1 (.val s) = some (.list ds, ρ1) := by
            show s.data.map (fun d => (d, ρ1)) = _
            rw [show s.data = some (.list ds) from e]
            rfl
          obtain ⟨F2, y, ex, q⟩ := x.frz (frz_get ez)
          cases q with
          | cons q _ => exact fin y q w
        | _ => exact w.elim
theorem getElem?_zip {xs ys : List PyData} {i : Nat} {d : PyData} (h : (zipD xs ys)[i]? = some d) : ∃ x y, xs[i]? = some x ∧ ys[i]? = some y ∧ d = .tuple [x, y] := by
  unfold zipD at h
  rw [List.getElem?_zipWith] at h
  cases e1 : xs[i]? with
  | none =>
    rw [e1] at h
    cases h
  | some x => cases e2 : ys[i]? with
    | none =>
      rw [e1, e2] at h
      cases h
    | some y =>
      rw [e1, e2] at h
      cases h
      exact ⟨x, y, rfl, rfl, rfl⟩
theorem zip_length {xs ys : List PyData} : (zipD xs ys).length = min xs.length ys.length := by
  unfold zipD
  rw [List.length_zipWith]
theorem itm_zip {a b : Addr} {xs ys : List V} {ds es : List PyData} {F0 : Hp} (h1 : SqL K F0 a xs) (h2 : SqL K F0 b ys) (r1 : RpAll K F0 xs ds) (r2 : RpAll K F0 ys es) : Itm K (Itz K a b) (zipD ds es) (fun F _ => Ex F0 F) := by
  refine ⟨fun F H i d e ha hi => ?_, fun F H i e ha hi => ?_⟩
  · obtain ⟨x, y, hx, hy, rfl⟩ := getElem?_zip hi
    obtain ⟨v, hv, rv⟩ := r1.get hx
    obtain ⟨u, hu, ru⟩ := r2.get hy
    refine ⟨⟨xs, ys, v, u, sqL_ex (ha.trans e) h1, sqL_ex (ha.trans e) h2, hv, hu⟩, fun w H' hw => ?_⟩
    obtain ⟨T, v', u', rfl, hT, rfl, al1, al2⟩ := hw
    have e1 := al1 xs (sqL_ex (ha.trans e) h1)
    have e2 := al2 ys (sqL_ex (ha.trans e) h2)
    rw [hv] at e1
    rw [hu] at e2
    cases e1
    cases e2
    exact ⟨_, .tup e hT (.cons (rv.mono ha) (.cons (ru.mono ha) .nil))⟩
  · rw [zip_length, ← r1.length, ← r2.length] at hi
    exact ⟨xs, ys, sqL_ex (ha.trans e) h1, sqL_ex (ha.trans e) h2, by omega⟩
theorem itm_zipT {a b : Addr} {xs ys : List V} {ds es : List PyData} {F0 : Hp} (h1 : SqT K F0 a xs) (h2 : SqT K F0 b ys) (r1 : RpAll K F0 xs ds) (r2 : RpAll K F0 ys es) : Itm K (RZ.ItzT K a b) (zipD ds es) (fun F _ => Ex F0 F) := by
  refine ⟨fun F H i d e ha hi => ?_, fun F H i e ha hi => ?_⟩
  · obtain ⟨x, y, hx, hy, rfl⟩ := getElem?_zip hi
    obtain ⟨v, hv, rv⟩ := r1.get hx
    obtain ⟨u, hu, ru⟩ := r2.get hy
    refine ⟨⟨xs, ys, v, u, sqT_ex (ha.trans e) h1, sqT_ex (ha.trans e) h2, hv, hu⟩, fun w H' hw => ?_⟩
    obtain ⟨T, v', u', rfl, hT, rfl, al1, al2⟩ := hw
    have e1 := al1 xs (sqT_ex (ha.trans e) h1)
    have e2 := al2 ys (sqT_ex (ha.trans e) h2)
    rw [hv] at e1
    rw [hu] at e2
    cases e1
    cases e2
    exact ⟨_, .tup e hT (.cons (rv.mono ha) (.cons (ru.mono ha) .nil))⟩
  · rw [zip_length, ← r1.length, ← r2.length] at hi
    exact ⟨xs, ys, sqT_ex (ha.trans e) h1, sqT_ex (ha.trans e) h2, by omega⟩
theorem i_zip {a b : Expr} {ia ib : IE} {elts : List Expr} {kk : Nat} {pp pos tpos : Pos} (hK : g.K = X.K) (hg : Gl X "zip") (hm : X.mg "zip" = none) (ha : ∀ ρ, PA X [a, b] (rdA g ρ (evEs p Φ [ia, ib] ρ)))
    (hs : starEach [a, b] X.env = (false, eval a X.env) :: starEach [b] X.env) (hpl : (backTo pos (starEach [b] X.env)).any (·.1) = false) (ρ : Env) :
    PI X (.Tuple elts kk tpos) (.Call (.Name "zip" pp) [a, b] [] pos) (rdI g ρ (evI p Φ (.zip ia ib) ρ)) := by
  refine pi_imp (RZ.pi_zipA hg hm (ha ρ) hs hpl) fun σ H R h => ?_
  obtain ⟨F, i, w⟩ := h
  have ev : evI p Φ (.zip ia ib) ρ = (evEs p Φ [ia, ib] ρ).bind fun rs ρ => (match frzAll ρ rs with
    | some ([.list xs, .list ys], ρ) => .ok (zipD xs ys, none) ρ
    | some ([.tuple xs, .tuple ys], ρ) => .ok (zipD xs ys, none) ρ
    | _ => .bad) := by
    unfold evI
    rw [evEs_cons]
    cases evE p Φ ia ρ with
    | bad => rfl
    | exc c fs ρ1 => rfl
    | ok ra ρ1 =>
      show Res.bind (evE p Φ ib ρ1) _ = Res.bind (Res.bind (evEs p Φ [ib] ρ1) _) _
      rw [evEs_cons]
      cases evE p Φ ib ρ1 with
      | bad => rfl
      | exc c fs ρ2 => rfl
      | ok rb ρ2 =>
        show _ = Res.bind (Res.bind (Res.bind (evEs p Φ [] ρ2) (fun rs ρ => .ok (rb :: rs) ρ)) (fun rs ρ => .ok (ra :: rs) ρ)) _
        rw [evEs_nil]
        rfl
  rw [ev] at w
  refine ⟨F, i, ?_⟩
  cases ho : evEs p Φ [ia, ib] ρ with
  | bad =>
    rw [ho] at w
    exact w
  | exc c fs ρ1 =>
    rw [ho] at w
    exact w
  | ok rs ρ1 =>
    rw [ho] at w
    refine fun vs F1 H1 x => ?_
    rw [← hK]
    have w : wantI g ρ σ F H (match frzAll ρ1 rs with
      | some ([.list xs, .list ys], ρ) => .ok (zipD xs ys, none) ρ
      | some ([.tuple xs, .tuple ys], ρ) => .ok (zipD xs ys, none) ρ
      | _ => .bad) R := w
    cases ez : frzAll ρ1 rs with
    | none =>
      rw [ez] at w
      exact w.elim
    | some q =>
      obtain ⟨ds, ρ2⟩ := q
      rw [ez] at w
      obtain ⟨F2, y, ex, r⟩ := x.frz ez
      have w : wantI g ρ σ F H (match (some (ds, ρ2) : Option (List PyData × Env)) with
        | some ([.list xs, .list ys], ρ) => .ok (zipD xs ys, none) ρ
        | some ([.tuple xs, .tuple ys], ρ) => .ok (zipD xs ys, none) ρ
        | _ => .bad) R := w
      split at w
      · rename_i xs ys ρ3 e
        cases e
        match r with
        | .cons q1 (.cons q2 .nil) =>
          obtain ⟨a, ws, rfl, h1, r1⟩ := q1.lstE
          obtain ⟨b, zs, rfl, h2, r2⟩ := q2.lstE
          exact ⟨a, b, ws, zs, rfl, .inl ⟨sqL_ex y.ok.sub h1, sqL_ex y.ok.sub h2, w _ none F2 H1 y rfl (itm_zip h1 h2 r1 r2)⟩⟩
      · rename_i xs ys ρ3 e
        cases e
        match r with
        | .cons q1 (.cons q2 .nil) =>
          obtain ⟨a, ws, rfl, h1, r1⟩ := q1.tupE
          obtain ⟨b, zs, rfl, h2, r2⟩ := q2.tupE
          exact ⟨a, b, ws, zs, rfl, .inr ⟨sqT_ex y.ok.sub h1, sqT_ex y.ok.sub h2, w _ none F2 H1 y rfl (itm_zipT h1 h2 r1 r2)⟩⟩
      · exact w.elim
end Mini
/-! Mini, part S: try, isinstance of what was caught. -/
namespace Mini
open PySem L2
variable {g : Gx} {ρ ρ1 ρ2 ρ3 : Env} {σ σ1 σ2 : St} {F H F1 H1 F2 H2 : Hp} {rs qs : List Rv} {vs us : List V} {X : Cx} {p : Pg} {Φ : Orc}
variable {K : PySem.W.Frag} {E E' : EP} {B B' : Nat → Bool} {np : Nat}

theorem noExc_get (h : noExc ρ = true) (i c : Nat) (fs : List (Str × PyData)) : getS ρ i ≠ some (.exc c fs) := fun e => by
  unfold getS at e
  cases q : ρ[i]? with
  | none =>
    rw [q] at e
    cases e
  | some o =>
    rw [q] at e
    have e : o = some (.exc c fs) := e
    subst e
    have := List.all_eq_true.mp h _ (List.mem_of_getElem? q)
    cases this
theorem SOk.noE {ι : Type} {s : ι → Option Sv} {v : ι → Option V} (x : SOk K E s v F H) (h : ∀ i c fs, s i ≠ some (.exc c fs)) : SOk K E' s v F H :=
  ⟨x.sub, fun i z hz => by
    obtain ⟨u, hu, q⟩ := x.at_ i z hz
    refine ⟨u, hu, ?_⟩
    cases z with
    | dat d => exact q
    | own c => exact q
    | glt ds => exact q
    | exc c fs => exact absurd hz (h i c fs), x.inj⟩
theorem gv_set_lt {i : Nat} {v : Option V} (h : i < σ.length) : gv (σ.set i v) i = v := by
  unfold gv
  rw [List.getElem?_set_self h]
  rfl
theorem gv_set_ne {i j : Nat} {v : Option V} (h : j ≠ i) : gv (σ.set i v) j = gv σ j := by
  unfold gv
  rw [List.getElem?_set_ne (Ne.symm h)]
/-- a slot takes something that is no container -/
theorem SOk.setX {i : Nat} {s : Sv} {v : V} (x : SOk K E (getS ρ) (gv σ) F H) (hl : σ.length = ρ.length) (hs : SvAt K E F H v s) (hn : ∀ c, s ≠ .own c) : SOk K E (getS (ρ.set i (some s))) (gv (σ.set i (some v))) F H := by
  by_cases hi : i < ρ.length
  · refine ⟨x.sub, fun j z hz => ?_, fun a b w ha hb => ?_⟩
    · by_cases e : j = i
      · subst e
        rw [getS_set_lt hi] at hz
        cases hz
        exact ⟨v, gv_set_lt (by rw [hl]; exact hi), hs⟩
      · rw [getS_set_ne e] at hz
        rw [gv_set_ne e]
        exact x.at_ j z hz
    · have go : ∀ a, Owns (getS (ρ.set i (some s))) (gv (σ.set i (some v))) a w → Owns (getS ρ) (gv σ) a w := fun a ⟨⟨c, h1⟩, h2⟩ => by
        by_cases e : a = i
        · subst e
          rw [getS_set_lt hi] at h1
          cases h1
          exact absurd rfl (hn c)
        · rw [getS_set_ne e] at h1
          rw [gv_set_ne e] at h2
          exact ⟨⟨c, h1⟩, h2⟩
      exact x.inj a b w (go a ha) (go b hb)
  · rw [List.set_eq_of_length_le (by omega), List.set_eq_of_length_le (by omega)]
    exact x
theorem own_setX {i : Nat} {s : Sv} {v : V} {b : Addr} (hn : ∀ c, s ≠ .own c) (h : Own (getS (ρ.set i (some s))) (gv (σ.set i (some v))) b) : Own (getS ρ) (gv σ) b := by
  obtain ⟨a, ⟨c, h1⟩, h2⟩ := h
  by_cases e : a = i
  · subst e
    by_cases hi : a < ρ.length
    · rw [getS_set_lt hi] at h1
      cases h1
      exact absurd rfl (hn c)
    · rw [getS_ge (by rw [List.length_set]; omega)] at h1
      cases h1
  · rw [getS_set_ne e] at h1
    rw [gv_set_ne e] at h2
    exact ⟨a, ⟨c, h1⟩, h2⟩
/-- the name goes -/
theorem getS_clear {i j : Nat} : getS (ρ.set i none) j = if j = i then none else getS ρ j := by
  by_cases e : j = i
  · subst e
    rw [if_pos rfl]
    by_cases hi : j < ρ.length
    · exact getS_set_lt hi
    · exact getS_ge (by rw [List.length_set]; omega)
  · rw [if_neg e, getS_set_ne e]
theorem PostS.leave {i : Nat} {so : Option Sv} {v : V} (hB : B i = true) (x : PostS K E B ρ σ F H ρ1 σ1 so v F1 H1) : PostS K E B ρ σ F H (ρ1.set i none) (σ1.set i none) so v F1 H1 := by
  have go : ∀ (j : Nat ⊕ Unit) z, Sum.elim (getS (ρ1.set i none)) (fun _ : Unit => so) j = some z → Sum.elim (getS ρ1) (fun _ : Unit => so) j = some z ∧ Sum.elim (gv (σ1.set i none)) (onev v) j = Sum.elim (gv σ1) (onev v) j := fun j z h => by
    cases j with
    | inr j => exact ⟨h, rfl⟩
    | inl j =>
      have h : getS (ρ1.set i none) j = some z := h
      rw [getS_clear] at h
      by_cases e : j = i
      · rw [if_pos e] at h
        cases h
      · rw [if_neg e] at h
        exact ⟨h, gv_set_ne e⟩
  refine ⟨⟨x.ok.sub, fun j z hz => ?_, fun a b w ⟨⟨c, a1⟩, a2⟩ ⟨⟨c', b1⟩, b2⟩ => ?_⟩, x.stp, fun b ⟨j, ⟨c, h1⟩, h2⟩ => ?_, by rw [List.length_set, x.len], by rw [List.length_set, x.lenσ], fun j hj => ?_⟩
  · obtain ⟨h1, h2⟩ := go j z hz
    rw [h2]
    exact x.ok.at_ j z h1
  · obtain ⟨h1, h2⟩ := go a _ a1
    obtain ⟨h3, h4⟩ := go b _ b1
    exact x.ok.inj a b w ⟨⟨c, h1⟩, by rw [← h2]; exact a2⟩ ⟨⟨c', h3⟩, by rw [← h4]; exact b2⟩
  · obtain ⟨h3, h4⟩ := go j _ h1
    exact x.lnk b ⟨j, ⟨c, h3⟩, by rw [← h4]; exact h2⟩
  · rw [List.getElem?_set_ne (fun z => by rw [z, hj] at hB; cases hB)]
    exact x.kpt j hj
/-- the other wish about exceptions: none is held -/
theorem PostS.noE {so : Option Sv} {v : V} (x : PostS K E B ρ σ F H ρ1 σ1 so v F1 H1) (h : noExc ρ1 = true) (hs : ∀ s, so = some s → notExc s = true) : PostS K E' B ρ σ F H ρ1 σ1 so v F1 H1 :=
  ⟨x.ok.noE (fun j c fs e => match j, e with
    | .inl j, e => noExc_get h j c fs e
    | .inr j, e => by cases hs _ e), x.stp, x.lnk, x.len, x.lenσ, x.kpt⟩
/-- behind the body and the suite -/
theorem PostS.suite {i : Nat} {s : Sv} {v w u : V} {so : Option Sv} {F3 H3 : Hp} {σ3 : St} (hB : B i = true) (hn : ∀ c, s ≠ .own c) (x : PostS K E B ρ σ F H ρ1 σ1 none u F1 H1) (y : PostS K E' B (ρ1.set i (some s)) (σ1.set i (some v)) F1 H1 ρ3 σ3 so w F3 H3) (h : noExc (ρ3.set i none) = true) (hs : ∀ s, so = some s → notExc s = true) :
    PostS K E B ρ σ F H (ρ3.set i none) (σ3.set i none) so w F3 H3 := by
  have y := (y.leave hB).noE (E' := E) h hs
  have up : ∀ b, Own (getS (ρ1.set i (some s))) (gv (σ1.set i (some v))) b → Own (getS ρ) (gv σ) b ∨ H b = none := fun b hb => x.lnk b (own_sum.mpr (.inl (own_setX hn hb)))
  refine ⟨y.ok, x.stp.trans ⟨y.stp.ex, fun b o h1 h2 => y.stp.keep b o h1 fun z => h2 (own_setX hn z), fun b o h1 h2 => (y.stp.grow b o h1 h2).imp id (own_setX hn)⟩ fun b hb => x.lnk b (own_sum.mpr (.inl hb)), fun b hb => ?_, by rw [y.len, List.length_set, x.len], by rw [y.lenσ, List.length_set, x.lenσ], fun j hj => ?_⟩
  · rcases y.lnk b hb with q | q
    · exact up b q
    · exact x.stp.back q
  · rw [y.kpt j hj, List.getElem?_set_ne (fun z => by rw [z, hj] at hB; cases hB)]
    exact x.kpt j hj

/-- within a suite: what the caught one is -/
def suG (g : Gx) (a : Addr) (c : Nat) (d : Option Addr) : Gx := { g with E := fun a' c' fs => a' = a ∧ c' = c ∧ (fs = [] → d = none), W := fun _ _ _ _ => False }
def suT (g : Gx) (B : Nat → Bool) (f : Env → SRes) : Addr → Value → Option Addr → TS := fun a cls d D σ H => ∃ c, cls = .ref (g.ca c) ∧ uS (suG g a c d) B f D σ H
theorem pss_su {sts : List Stmt} {f : Env → SRes} {a : Addr} {cls : Value} {d : Option Addr} (h : ∀ c, cls = .ref (g.ca c) → ∀ ρ, PSs X sts (rdS (suG g a c d) B ρ (f ρ))) : PSs X sts (suT g B f a cls d) :=
  ⟨fun pins s σ H D I ⟨c, e, ρ, q⟩ => (h c e ρ).run pins s σ H D I q⟩

theorem s_tryA {x n : Str} {k i : Nat} {body suite : List Stmt} {b₀ : Stmt} {pp pos pos' : Pos} {ib is : List IS} (hs : X.stack = X.env :: X.outer) (hf : X.env.frame = some X.env.locals) (hN : X.N.Nodup) (hi : X.N[i]? = some n) (hln : X.env.kindOf n = some .local)
    (hc : Names X x (.ref (g.ca k))) (tk : Takes X g.W) (hK : g.K = X.K) (hsub : ∀ c, PySem.W.exmOne X.K (.ref (g.ca c)) (.ref (g.ca k)) = some (p.sub c k)) (hB : B i = true)
    (hb : ∀ (W : WX) (pn : List (Addr × Obj)) (xe : Value → Shared → Prop), Takes (X.tr pn xe) W → PassesOwn (model X.prog X.w) X.A X.env xe → ∀ ρ, PSs (X.tr pn xe) body (rdS { g with W := W } B ρ (evSs p Φ np ib ρ)))
    (hsu : ∀ (a : Addr) (oe : Obj) (c : Nat) (d : Option Addr) (pn : List (Addr × Obj)), Zc (.ref (g.ca c)) d oe → (∃ vs, oe.data = .fields vs) → ∀ ρ, PSs (X.suite a ((a, oe) :: pn)) (b₀ :: suite) (rdS (suG g a c d) B ρ (evSs p Φ np is ρ))) (ρ : Env) :
    PS X (.Try body [.ExceptHandler (some (.Name x pp)) (some n) (b₀ :: suite) pos'] [] [] pos) (rdS g B ρ (evS p Φ np (.try_ ib [(k, some i, is)]) ρ)) := by
  refine ps_imp (ps_try_as (tb := fun W => rdS { g with W := W } B ρ (evSs p Φ np ib ρ)) (ts := suT g B (evSs p Φ np is)) hs hf hN hi hln hc tk (fun W pn xe t q => hb W pn xe t q ρ) (fun a oe cls d pn z q => pss_su fun c e => by subst e; exact hsu a oe c d pn z q)) fun D σ H h => ?_
  obtain ⟨F, ii, w⟩ := h
  unfold evS at w
  refine ⟨F, ii, ?_⟩
  cases ho : evSs p Φ np ib ρ with
  | nx ρ1 =>
    rw [ho] at w
    exact w
  | brk ρ1 =>
    rw [ho] at w
    exact w
  | cnt ρ1 =>
    rw [ho] at w
    exact w
  | ret s ρ1 =>
    rw [ho] at w
    exact w
  | bad =>
    rw [ho] at w
    exact w
  | exc c fs ρ1 =>
    rw [ho] at w
    intro cls d σ1 F1 H1 y z
    obtain ⟨z1, z2⟩ := z
    subst z1
    refine ⟨p.sub c k, hsub c, fun hb1 a ha => ?_, fun hb1 => ?_⟩
    · have w : wantS g B ρ σ F H (if p.sub c k = true then (if noExc ρ1 = true then (evSs p Φ np is (ρ1.set i (some (.exc c fs)))).leave i else .bad) else .exc c fs ρ1) D := w
      rw [if_pos hb1] at w
      cases hn : noExc ρ1 with
      | false =>
        rw [hn] at w
        exact w.elim
      | true =>
        rw [hn, if_pos rfl] at w
        have hd : fs = [] → d = none := fun e => z2.elim (fun q => q.2) fun q => absurd e q.1
        refine ⟨c, rfl, ρ1.set i (some (.exc c fs)), F1, ⟨by rw [List.length_set, List.length_set, y.lenσ, y.len]; exact ii.1, ?_⟩, ?_⟩
        · exact SOk.setX (y.st.noE fun j => noExc_get hn j) (by rw [y.lenσ, y.len]; exact ii.1) ⟨a, rfl, rfl, rfl, hd⟩ fun c q => by cases q
        · cases ho2 : evSs p Φ np is (ρ1.set i (some (.exc c fs))) with
          | bad =>
            rw [ho2] at w
            exact w.elim
          | exc c' fs' ρ2 =>
            rw [ho2] at w
            exact w.elim
          | nx ρ2 =>
            rw [ho2] at w
            have w : wantS g B ρ σ F H (if noExc (ρ2.set i none) = true then .nx (ρ2.set i none) else .bad) D := w
            split at w
            · rename_i hn2
              exact fun σ2 F2 H2 y2 => w _ F2 H2 (y.suite hB (fun c q => by cases q) y2 hn2 fun s q => by cases q)
            · exact w.elim
          | brk ρ2 =>
            rw [ho2] at w
            have w : wantS g B ρ σ F H (if noExc (ρ2.set i none) = true then .brk (ρ2.set i none) else .bad) D := w
            split at w
            · rename_i hn2
              exact fun σ2 F2 H2 y2 => w _ F2 H2 (y.suite hB (fun c q => by cases q) y2 hn2 fun s q => by cases q)
            · exact w.elim
          | cnt ρ2 =>
            rw [ho2] at w
            have w : wantS g B ρ σ F H (if noExc (ρ2.set i none) = true then .cnt (ρ2.set i none) else .bad) D := w
            split at w
            · rename_i hn2
              exact fun σ2 F2 H2 y2 => w _ F2 H2 (y.suite hB (fun c q => by cases q) y2 hn2 fun s q => by cases q)
            · exact w.elim
          | ret s ρ2 =>
            rw [ho2] at w
            have w : wantS g B ρ σ F H (if (noExc (ρ2.set i none) && notExc s) = true then .ret s (ρ2.set i none) else .bad) D := w
            split at w
            · rename_i hn2
              obtain ⟨h1, h2⟩ := Bool.and_eq_true_iff.mp hn2
              exact fun v σ2 F2 H2 y2 => w v _ F2 H2 (y.suite hB (fun c q => by cases q) y2 h1 fun s' q => by cases q; exact h2)
            · exact w.elim
    · have w : wantS g B ρ σ F H (if p.sub c k = true then (if noExc ρ1 = true then (evSs p Φ np is (ρ1.set i (some (.exc c fs)))).leave i else .bad) else .exc c fs ρ1) D := w
      rw [hb1, if_neg Bool.false_ne_true] at w
      exact w _ d σ1 F1 H1 y ⟨rfl, z2⟩

/-- isinstance(e, C), e what the suite caught -/
theorem e_isx {a : Addr} {c k : Nat} {d : Option Addr} {oe : Obj} {pn : List (Addr × Obj)} {e : Expr} {ie : IE} {x : Str} {pp p2 pos : Pos} (hK : g.K = X.K) (C : ExcC X.K (g.ca c)) (hz : Zc (.ref (g.ca c)) d oe) (hf : ∃ vs, oe.data = .fields vs) (hk : PySem.W.kitOne X.K (.ref (g.ca c)) (.ref (g.ca k)) = some (p.sub c k))
    (he0 : ∀ ρ, PE (X.suite a ((a, oe) :: pn)) e (rdE (suG g a c d) ρ (evE p Φ ie ρ))) (hg : Gl X "isinstance") (hm : X.mg "isinstance" = none) (hg2 : PE (X.suite a ((a, oe) :: pn)) (.Name x p2) (tC (.ref (g.ca k))))
    (he : starEach (e :: [.Name x p2]) X.env = (false, eval e X.env) :: starEach [.Name x p2] X.env) (he2 : starEach (.Name x p2 :: []) X.env = (false, eval (.Name x p2) X.env) :: starEach [] X.env) (hpl : (backTo pos (starEach [.Name x p2] X.env)).any (·.1) = false) (ρ : Env) :
    PE (X.suite a ((a, oe) :: pn)) (.Call (.Name "isinstance" pp) [e, .Name x p2] [] pos) (rdE (suG g a c d) ρ (evE p Φ (.isx ie k) ρ)) := by
  cases d with
  | some d =>
    refine pe_imp (pe_callB (X := X.suite a ((a, oe) :: pn)) (id := "isinstance") (r := fun _ _ _ => False) (fun _ _ _ _ _ _ _ _ _ h => h.elim) hg hm (by decide +kernel) (pa_cons (he0 ρ) (pa_cons hg2 pa_nil he2) he) (by decide) (by decide) he hpl) fun σ H Q h => ?_
    unfold evE at h
    refine rd1 h fun F r ρ1 v F1 H1 i y w => ?_
    cases r with
    | slot j => exact w.elim
    | val s => cases s with
      | dat q => exact w.elim
      | own q => exact w.elim
      | glt q => exact w.elim
      | exc c' fs => cases fs with
        | cons q r => exact w.elim
        | nil =>
          obtain ⟨u, hu, q⟩ := y.ok.at_ (.inr 0) _ rfl
          obtain ⟨a', _, q⟩ := q
          cases q.2.2 rfl
  | none =>
    refine pe_imp (pe_callB (X := X.suite a ((a, oe) :: pn)) (id := "isinstance") (call_isE C hz hf) hg hm (by decide +kernel) (pa_cons (he0 ρ) (pa_cons hg2 pa_nil he2) he) (by decide) (by decide) he hpl) fun σ H Q h => ?_
    unfold evE at h
    refine rd1 h fun F r ρ1 v F1 H1 i y w => ?_
    cases r with
    | slot j => exact w.elim
    | val s => cases s with
      | dat q => exact w.elim
      | own q => exact w.elim
      | glt q => exact w.elim
      | exc c' fs => cases fs with
        | cons q r => exact w.elim
        | nil =>
          obtain ⟨u, hu, q⟩ := y.ok.at_ (.inr 0) _ rfl
          have hu : some v = some u := hu
          cases hu
          obtain ⟨a', rfl, rfl, rfl, _⟩ := q
          exact ⟨V.ref (g.ca k), Value.ref (g.ca k), p.sub c' k, rfl, fun u (hu : RelV (V.ref (g.ca k)) u) => by cases hu; rfl, hk, want_dat w y (.bl _)⟩
end Mini
/-! Mini, part T: a def keeps its promise; the end of a law; facts that a head tells. -/
namespace Mini
open PySem L2
variable {g : Gx} {ρ ρ1 ρ2 ρ3 : Env} {σ σ1 σ2 : St} {F H F1 H1 F2 H2 : Hp} {rs qs : List Rv} {vs us : List V} {X : Cx} {p : Pg} {Φ : Orc}
variable {K : PySem.W.Frag} {E E' : EP} {B B' : Nat → Bool} {np : Nat}

/-! ### a def's context -/
structure Tx (g : Gx) (X : Cx) (lv : Nat) : Prop where
  K : g.K = X.K
  tk : Takes X g.W
  ps : PassesOwn (model X.prog X.w) X.A X.env X.xe
  calm : X.calm = true
  gd : X.A.guards = some []
  rm : Room lv X.A
theorem Tx.tr {lv : Nat} {W : WX} {pn : List (Addr × Obj)} {xe : Value → Shared → Prop} (T : Tx g X lv) (t : Takes (X.tr pn xe) W) (q : PassesOwn (model X.prog X.w) X.A X.env xe) : Tx { g with W := W } (X.tr pn xe) lv := ⟨T.K, t, q, T.calm, T.gd, T.rm⟩
theorem Tx.un {lv : Nat} (T : Tx g X lv) : X.A.units + 66 < cLine := by have := T.rm.un; omega
theorem Tx.un5 {lv : Nat} (T : Tx g X lv) : X.A.units + 65 < cLine := by have := T.rm.un; omega

/-! ### from the body to the promise -/
theorem getS_mask : ∀ {kp : List Bool} {ρ : Env} {i : Nat}, getS (maskP kp ρ) i = if kp.getD i false = true then getS ρ i else none
  | kp, [], i => by
    have : getS ([] : Env) i = none := getS_ge (Nat.zero_le _)
    show getS [] i = _
    rw [this]
    split <;> rfl
  | kp, s :: r, 0 => by
    show getS ((if kp.headD false = true then s else none) :: _) 0 = _
    cases kp with
    | nil => rfl
    | cons b kp => cases b <;> rfl
  | kp, s :: r, i + 1 => by
    show getS (maskP kp.tail r) i = _
    rw [getS_mask]
    cases kp with
    | nil => rfl
    | cons b kp => rfl
theorem getS_take {n i : Nat} : getS (ρ.take n) i = if i < n then getS ρ i else none := by
  unfold getS
  by_cases h : i < n
  · rw [if_pos h, List.getElem?_take_of_lt h]
  · rw [if_neg h, List.getElem?_take_eq_none (by omega)]
    rfl
theorem start_gv {N : List Str} (i : Nat) : gv (start N vs) i = vs[i]? := by
  unfold gv L2.start
  by_cases h : i < vs.length
  · rw [List.getElem?_append_left (by simpa using h), List.getElem?_map, List.getElem?_eq_getElem h]
    rfl
  · rw [List.getElem?_append_right (by simpa using h), List.getElem?_replicate, List.getElem?_eq_none (by omega)]
    split <;> rfl
theorem start_getS {ss : List Sv} {n : Nat} (i : Nat) : getS (ss.map some ++ List.replicate n none) i = ss[i]? := by
  unfold getS
  by_cases h : i < ss.length
  · rw [List.getElem?_append_left (by simpa using h), List.getElem?_map, List.getElem?_eq_getElem h]
    rfl
  · rw [List.getElem?_append_right (by simpa using h), List.getElem?_replicate, List.getElem?_eq_none (by omega)]
    split <;> rfl
theorem post_c {N : List Str} {kp : List Bool} {ss : List Sv} {n np : Nat} {so : Option Sv} {v : V} (hB : ∀ i, kp.getD i false = true → B i = false)
    (x : PostS K E B (ss.map some ++ List.replicate n none) (start N vs) F H ρ1 σ1 so v F1 H1) : PostC K E ss vs F H (maskP kp (ρ1.take np)) so v F1 H1 := by
  have e : ∀ i, Sum.elim (getS (maskP kp (ρ1.take np))) (fun _ : Unit => so) i ≠ none → Sum.elim (getS (maskP kp (ρ1.take np))) (fun _ : Unit => so) i = Sum.elim (getS ρ1) (fun _ : Unit => so) i ∧ Sum.elim (vat vs) (onev v) i = Sum.elim (gv σ1) (onev v) i := fun i hi => by
    cases i with
    | inr i => exact ⟨rfl, rfl⟩
    | inl i =>
      have hi : getS (maskP kp (ρ1.take np)) i ≠ none := hi
      rw [getS_mask, getS_take] at hi
      show getS (maskP kp (ρ1.take np)) i = getS ρ1 i ∧ vs[i]? = gv σ1 i
      rw [getS_mask, getS_take]
      cases hk : kp.getD i false with
      | false =>
        rw [hk, if_neg Bool.false_ne_true] at hi
        exact absurd rfl hi
      | true =>
        rw [hk, if_pos rfl] at hi
        rw [if_pos rfl]
        by_cases hn : i < np
        · rw [if_pos hn]
          refine ⟨rfl, ?_⟩
          have := x.kpt i (hB i hk)
          rw [← start_gv (N := N)]
          unfold gv
          rw [this]
        · rw [if_neg hn] at hi
          exact absurd rfl hi
  have ow : ∀ b, Own (getS (ss.map some ++ List.replicate n none)) (gv (start N vs)) b → Own (svat ss) (vat vs) b := fun b ⟨i, ⟨c, h1⟩, h2⟩ => by
    rw [start_getS] at h1
    rw [start_gv] at h2
    exact ⟨i, ⟨c, h1⟩, h2⟩
  have wo : ∀ b, Own (svat ss) (vat vs) b → Own (getS (ss.map some ++ List.replicate n none)) (gv (start N vs)) b := fun b ⟨i, ⟨c, h1⟩, h2⟩ => ⟨i, ⟨c, by rw [start_getS]; exact h1⟩, by rw [start_gv]; exact h2⟩
  refine ⟨x.ok.part id (fun i j _ _ h => h) e, ⟨x.stp.ex, fun b o h1 h2 => x.stp.keep b o h1 fun z => h2 (ow b z), fun b o h1 h2 => (x.stp.grow b o h1 h2).imp id (ow b)⟩, fun b ⟨i, ⟨c, h1⟩, h2⟩ => ?_⟩
  obtain ⟨e1, e2⟩ := e i (by rw [h1]; exact fun z => nomatch z)
  exact (x.lnk b ⟨i, ⟨c, by rw [← e1]; exact h1⟩, by rw [← e2]; exact h2⟩).imp (ow b) id
theorem PostS.ret0 (x : PostS K E B ρ σ F H ρ1 σ1 none .non F1 H1) : PostS K E B ρ σ F H ρ1 σ1 (some (.dat .none)) .non F1 H1 := by
  refine ⟨⟨x.ok.sub, fun i z h => ?_, fun i j a hi hj => ?_⟩, x.stp, fun b ⟨i, ⟨c, h1⟩, h2⟩ => ?_, x.len, x.lenσ, x.kpt⟩
  · cases i with
    | inl i => exact x.ok.at_ (.inl i) z h
    | inr i =>
      have h : some (Sv.dat .none) = some z := h
      cases h
      exact ⟨.non, rfl, .non⟩
  · cases i with
    | inr i =>
      obtain ⟨⟨c, h1⟩, _⟩ := hi
      cases h1
    | inl i => cases j with
      | inr j =>
        obtain ⟨⟨c, h1⟩, _⟩ := hj
        cases h1
      | inl j => exact x.ok.inj (.inl i) (.inl j) a hi hj
  · cases i with
    | inr i => cases h1
    | inl i => exact x.lnk b ⟨.inl i, ⟨c, h1⟩, h2⟩

def gOf (K : PySem.W.Frag) (ca : Nat → Addr) (E : XK) : Gx := ⟨K, ca, fun _ _ _ => False, fun cls d _ H => E cls d H⟩
/-- THE RULE for a def -/
theorem fn_ok {P : Program} {w : World} {mg : Str → Option Value} {base : Heap} {k : Nat} {f : Addr} {x qual : Str} {params : Arguments} {body : List Stmt} {scope : Scope} {fd : FuncData} {N ps : List Str} {ca : Nat → Addr} {d : FnI}
    (D : FunD K x qual params body scope [] [] f fd) (S : FnScope N ps scope) (hnp : ps.length = d.np) (hnl : N.length = d.nl) (hB : ∀ i, d.kp.getD i false = true → B i = false)
    (hb : ∀ (cdv : Value) (A : Around) (outer : List PySem.Env) (s : Shared) (H : Hp) (E : XK), Tx (gOf K ca E) (cxOf (L2.CX P w) P w K mg base N qual scope f cdv A outer s H E) k → ∀ ρ, PSs (cxOf (L2.CX P w) P w K mg base N qual scope f cdv A outer s H E) body (rdS (gOf K ca E) B ρ (evSs p Φ d.np d.body ρ))) :
    FnG P w K mg base (k + 1) f fd ps (spI K ca (fun _ _ _ => False) (runF p Φ d)) := by
  have len : ∀ vs H Q E, spI K ca (fun _ _ _ => False) (runF p Φ d) vs H Q E → vs.length = ps.length := fun vs H Q E ⟨F, ss, n, ok, w⟩ => by
    unfold runF at w
    by_cases e : ss.length = d.np
    · rw [← n, e, hnp]
    · rw [if_neg e] at w
      exact w.elim
  refine fnG_of D S len fun cdv A outer s H vs Q E hr hgd h => ?_
  have hl := len _ _ _ _ h
  obtain ⟨F, ss, n, ok, w⟩ := h
  have hn : ss.length = d.np := by rw [n, hl, hnp]
  refine ⟨_, hb cdv A outer s H E ⟨rfl, takes_of rfl rfl rfl rfl, passes_of rfl, rfl, hgd, hr⟩ (ss.map some ++ List.replicate (d.nl - d.np) none), F, ⟨?_, ?_⟩, ?_⟩
  · unfold L2.start
    rw [List.length_append, List.length_append, List.length_map, List.length_map, List.length_replicate, List.length_replicate, hnl, n, ← hn, n]
  · exact ⟨ok.sub, fun i z hz => by
      rw [start_getS] at hz
      rw [start_gv]
      exact ok.at_ i z hz, fun i j a ⟨⟨c, h1⟩, h2⟩ ⟨⟨c', h3⟩, h4⟩ => by
      rw [start_getS] at h1 h3
      rw [start_gv] at h2 h4
      exact ok.inj i j a ⟨⟨c, h1⟩, h2⟩ ⟨⟨c', h3⟩, h4⟩⟩
  · unfold runF at w
    rw [if_pos hn] at w
    cases ho : evSs p Φ d.np d.body (ss.map some ++ List.replicate (d.nl - d.np) none) with
    | nx ρ1 =>
      rw [ho] at w
      exact fun σ' F' H' y => w .non F' H' (post_c hB y.ret0)
    | ret s ρ1 =>
      rw [ho] at w
      exact fun v σ' F' H' y => w v F' H' (post_c hB y)
    | exc c fs ρ1 =>
      rw [ho] at w
      exact fun cls d' σ' F' H' y z => w cls d' F' H' (post_c hB y) z
    | brk ρ1 =>
      rw [ho] at w
      exact w.elim
    | cnt ρ1 =>
      rw [ho] at w
      exact w.elim
    | bad =>
      rw [ho] at w
      exact w.elim
/-- no calls left: nothing is promised -/
theorem fn_no {P : Program} {w : World} {mg : Str → Option Value} {base : Heap} {k : Nat} {f : Addr} {fd : FuncData} {ps : List Str} {ca : Nat → Addr} {φ : List Sv → Option FRes} (h : ∀ ss, φ ss = none) : FnG P w K mg base k f fd ps (spI K ca (fun _ _ _ => False) φ) :=
  ⟨fun vs H Q E ⟨F, ss, n, ok, w⟩ => by rw [h] at w; exact w.elim, fun _ _ _ _ _ _ _ _ _ _ _ _ _ _ ⟨F, ss, n, ok, w⟩ => by rw [h] at w; exact w.elim⟩
theorem FnG.orc {P : Program} {w : World} {mg : Str → Option Value} {base : Heap} {k n i : Nat} {f : Addr} {fd : FuncData} {ps : List Str} {ca : Nat → Addr} {fs : List FnI} {d : FnI} (G : FnG P w K mg base k f fd ps (spI K ca (fun _ _ _ => False) (runF p (Mini.orc p fs n) d))) (h : fs[i]? = some d) :
    FnG P w K mg base k f fd ps (spI K ca (fun _ _ _ => False) (Mini.orc p fs (n + 1) i)) := by
  have e : Mini.orc p fs (n + 1) i = runF p (Mini.orc p fs n) d := by
    funext vs
    show (fs[i]?).bind _ = _
    rw [h]
    rfl
  rw [e]
  exact G

/-! ### the end -/
/-- at a heap of which nothing is tracked but what H tells: H knows at most the script -/
theorem law_at {P : Program} {w : World} {mg mb : Str → Option Value} {k : Nat} {fa a : Addr} {fd : FuncData} {x : Str} {sp : Sp} {s : Shared} {H : Hp} {its : Array Value} {n : Nat}
    (KX : K.In s.heap) (hns : s.heap.Ns mainGlobals mg) (hb : s.heap.Ns builtinsNs mb) (hbb : ∀ x : Str, x ≠ "__name__" → mb x = bootBuiltins x) (hlim : s.heap.NoLimit) (hg : s.gens = #[]) {c : Value} {od : Option Addr} {osl : Array (Option Value)} (ha : s.heap.get? a = some ⟨c, od, .seq its n, osl⟩)
    (hr : Room k callerA) (FG : ∀ base : Heap, K.In base → base.Ns mainGlobals mg → FnG P w K mg base k fa fd [x] sp) (hbind : ∀ (s : Shared) (u : Value), BindsTo s fd ⟨[u], []⟩ [(x, u)])
    (hO : Only H) (ok : HOk P w H s.heap) (dom : ∀ b, H b ≠ none → b = a ∧ K.lookup a = none) (hsp : sp [.ref a] H (fun v _ => v = .bl true) fun _ _ _ => False) :
    codeAny (model P w) callerA (.call (.ref fa) ⟨[.ref a], []⟩) (fun r s' => r = .ok (.ret (.bool true)) ∧ OldK s.heap s'.heap ∧ s'.os = s.os ∧ PyProof.Rows.AllBare s'.gens) s := by
  have free : ∀ b o, s.heap.get? b = some o → (∀ its' n', o.data ≠ .seq its' n') → H b = none := fun b o e d => by
    cases q : H b with
    | none => rfl
    | some u =>
      have eb := (dom b (by rw [q]; exact fun z => nomatch z)).1
      rw [eb, ha] at e
      cases e
      exact absurd rfl (d its n)
  have ns : ∀ {b : Addr} {m : Str → Option Value}, s.heap.Ns b m → (hidT s.heap H).Ns b m := fun ⟨o, es, ep, e, d, r⟩ => ⟨o, es, ep, hidT_get e (free _ _ e fun _ _ z => by rw [d] at z; cases z), d, r⟩
  have kin : K.In (hidT s.heap H) := fun b o e => hidT_get (KX b o e) (by
    cases q : H b with
    | none => rfl
    | some u =>
      obtain ⟨eb, z⟩ := dom b (by rw [q]; exact fun z => nomatch z)
      rw [eb, z] at e
      cases e)
  obtain ⟨ml, hl1, hl2⟩ := hlim
  have env : Env0 P w K mg (hidT s.heap H) callerA [] s H :=
    ⟨rfl, ⟨kin, ns hns, ⟨mb, ns hb, hbb⟩, ⟨ml, ns hl1, hl2⟩⟩, fun b o e => of_hidT e, Nat.le_of_eq (hidT_size _ _), trivial, fun b hm => absurd hm (List.not_mem_nil (a := b)), ok, .of_eq hg⟩
  have run := (FG _ kin (ns hns)).run callerA [] s H ⟨[.ref a], []⟩ [.ref a] [.ref a] (fun v _ => v = .bl true) (fun _ _ _ => False) hr rfl env (hbind s (.ref a)) (.cons rfl .nil) hsp
  refine codeAny_mono run fun r s' h => ?_
  match r, h with
  | .error e, h =>
    obtain ⟨_, _, _, _, _, _, _, _, _, _, _, _, z⟩ := h
    exact z.elim
  | .ok .next, h => exact False.elim h
  | .ok .brk, h => exact False.elim h
  | .ok .cont, h => exact False.elim h
  | .ok (.ret u), h =>
    obtain ⟨v, H', os, bare, un, ok', r', q⟩ := h
    have q : v = .bl true := q
    subst q
    have r' : u = Value.bool true := r'
    subst r'
    refine ⟨rfl, OldK.of_keep fun b o e => ?_, os, bare⟩
    cases q : H b with
    | none => exact un.keep b o e q (fun z => nomatch z) (List.not_mem_nil)
    | some u =>
      rcases hO b with z | ⟨ob, xs, z⟩
      · rw [q] at z
        cases z
      · obtain ⟨e1, _⟩ := ok b _ z
        obtain ⟨e2, _⟩ := ok' b _ (un.frzs b ob _ z)
        rw [e] at e1
        cases e1
        exact e2
theorem intsV : ∀ {vs : List Value} {ns : List Int}, PyProof.Rows.IntsAre vs ns → Vals (ns.map V.int) vs
  | _, _, .nil => .nil
  | _, _, .cons n t h => .cons ⟨t, rfl⟩ (intsV h)
/-- what the law's def is asked -/
def LawP (K : PySem.W.Frag) (sp : Sp) (n : Nat) : Prop := ∀ (H : Hp) (a : Addr) (ns : List Int), ns.length ≤ n → LstAt K H a (ns.map V.int) → sp [.ref a] H (fun v _ => v = .bl true) fun _ _ _ => False
theorem walk_ofG {l : PySem.W.OpenLaw} {n k : Nat} {q : Program} {loose : List Str} {XP : (Str → Option Value) → Heap → Prop} {YP : World → Heap → Prop} {d : DefRec} {x : Str}
    (hn : l.most = some n) (hn2 : n ≤ sizeLine) (hdf : d.params.defaults = []) (hr : Room k callerA)
    (FW : ∀ (w : World) (mg : Str → Option Value) (fa : Addr) (h : Heap), YP w h → h.Ns mainGlobals mg → mg d.name = some (.ref fa) →
      ∃ (K : PySem.W.Frag) (fd : FuncData) (sp : Sp), K.In h ∧ (∀ (s : Shared) (u : Value), BindsTo s fd ⟨[u], []⟩ [(x, u)]) ∧ LawP K sp n ∧ ∀ base : Heap, K.In base → base.Ns mainGlobals mg → FnG l.prog w K mg base k fa fd [x] sp) :
    PySem.W.WalkO q loose XP YP l.row.toRowW d [] (fun f vs => PySem.call f vs) := by
  refine Att.attach_call hn hdf fun w s₀ s₁ mg mb fa o pm cd doc a vs ns G Y ho hd hcd hmg hobj hints hlen hg => ?_
  obtain ⟨K, fd, sp, KX, hb, hsp, hF⟩ := FW w mg fa _ Y G.T.g hmg
  have rv := intsV hints
  have hsz : ns.length ≤ sizeLine := Nat.le_trans hlen hn2
  cases hk : K.lookup a with
  | some o' =>
    have e := KX a o' hk
    rw [hobj] at e
    cases e
    have sq : LstAt K (fun _ => none) a (ns.map V.int) := .inr ⟨vs, _, hk, by rw [List.length_map]; exact hsz, rv⟩
    exact law_at (H := fun _ => none) KX G.T.g G.T.b G.T.builtins G.T.nolimit hg hobj hr hF hb (fun _ => .inl rfl) (fun b u z => by cases z) (fun b z => absurd rfl z) (hsp _ a ns hlen sq)
  | none =>
    let o1 : Obj := { cls := .type "list", data := .seq vs.toArray }
    let H1 : Hp := upd (fun _ => none) a (.frz o1 (.lst (ns.map V.int)))
    have at_ : ∀ b u, H1 b = some u → b = a ∧ u = .frz o1 (.lst (ns.map V.int)) := fun b u z => by
      by_cases e : b = a
      · subst e
        have z : upd (fun _ => none) b _ b = some u := z
        rw [upd_same] at z
        cases z
        exact ⟨rfl, rfl⟩
      · have z : upd (fun _ => none) a _ b = some u := z
        rw [upd_ne e] at z
        cases z
    refine law_at (H := H1) KX G.T.g G.T.b G.T.builtins G.T.nolimit hg hobj hr hF hb (fun b => ?_) (fun b u z => ?_) (fun b z => ?_) (hsp _ a ns hlen (.inl (.inr ⟨o1, upd_same⟩)))
    · cases q : H1 b with
      | none => exact .inl rfl
      | some u =>
        obtain ⟨_, rfl⟩ := at_ b u q
        exact .inr ⟨_, _, rfl⟩
    · obtain ⟨rfl, rfl⟩ := at_ b u z
      exact ⟨hobj, by rw [List.length_map]; exact hsz, vs, _, rv, hobj⟩
    · cases q : H1 b with
      | none => exact absurd q z
      | some u => exact ⟨(at_ b u q).1, hk⟩
/-- the law's def answers True -/
theorem lawP_of {ca : Nat → Addr} {n : Nat} {φ : List Sv → Option FRes} (h : ∀ ns : List Int, ns.length ≤ n → ∃ ps, φ [.dat (.list (ns.map .int))] = some (.ret (.dat (.bool true)) ps)) : LawP K (spI K ca (fun _ _ _ => False) φ) n := by
  intro H a ns hl sq
  obtain ⟨ps, e⟩ := h ns hl
  have rp : ∀ ns : List Int, RpAll K H (ns.map V.int) (ns.map PyData.int) := fun ns => by
    induction ns with
    | nil => exact .nil
    | cons n ns ih => exact .cons (.int n) ih
  refine ⟨H, [.dat (.list (ns.map .int))], rfl, ⟨Ex.refl H, fun i x hx => ?_, fun i j b hi hj => ?_⟩, ?_⟩
  · cases i with
    | succ i => cases hx
    | zero =>
      have hx : some (Sv.dat (.list (ns.map .int))) = some x := hx
      cases hx
      exact ⟨.ref a, rfl, .lst sq (rp ns)⟩
  · obtain ⟨⟨c, h1⟩, _⟩ := hi
    cases i with
    | succ i => cases h1
    | zero => cases h1
  · rw [e]
    intro v F' H' y
    obtain ⟨u, hu, q⟩ := y.ok.at_ (.inr ()) _ rfl
    have hu : some v = some u := hu
    cases hu
    cases q
    rfl
end Mini
/-! Mini, part U: what the printed ties lean on; a law's facts; the Hook. -/
namespace Mini
open PySem L2
variable {g : Gx} {ρ ρ1 ρ2 ρ3 : Env} {σ σ1 σ2 : St} {F H F1 H1 F2 H2 : Hp} {rs qs : List Rv} {vs us : List V} {X : Cx} {p : Pg} {Φ : Orc}
variable {K : PySem.W.Frag} {E E' : EP} {B B' : Nat → Bool} {np : Nat}

structure Te (g : Gx) (X : Cx) (lv : Nat) : Prop where
  K : g.K = X.K
  tk : Takes X g.W
  calm : X.calm = true
  gd : X.A.guards = some []
  rm : Room lv X.A
theorem Tx.e {lv : Nat} (T : Tx g X lv) : Te g X lv := ⟨T.K, T.tk, T.calm, T.gd, T.rm⟩
theorem Te.u1 {lv : Nat} (T : Te g X lv) : X.A.units + 1 < cLine := by have := T.rm.un; omega
theorem Te.u64 {lv : Nat} (T : Te g X lv) : X.A.units + 64 < cLine := by have := T.rm.un; omega
theorem Te.u65 {lv : Nat} (T : Te g X lv) : X.A.units + 65 < cLine := by have := T.rm.un; omega
theorem Te.u66 {lv : Nat} (T : Te g X lv) : X.A.units + 66 < cLine := by have := T.rm.un; omega
theorem takesNo {X : Cx} : Takes X (fun _ _ _ _ => False) := fun _ _ x => by
  obtain ⟨_, _, _, _, _, _, _, _, _, _, _, _, _, _, _, _, z⟩ := x
  exact z.elim
theorem Te.blk {lv : Nat} {s : Shared} {H : Hp} {scope : Scope} {cenv : PySem.Env} {fp : List Addr} (T : Te g X lv) : Te g.no (X.blk s H scope cenv fp) lv := ⟨T.K, takesNo, T.calm, T.gd, T.rm⟩
theorem t_w {e : Expr} {ie : IE} (h : ∀ ρ, PW X e (rdT g ρ (evT p Φ ie ρ))) (ρ : Env) : PT X e (rdT g ρ (evT p Φ ie ρ)) := (h ρ).pt
/-- a name of the module -/
theorem e_gn {x : Str} {v : V} {pos : Pos} (hg : Gl X x) (h : ∃ u, X.mg x = some u ∧ RelV v u) (hd : (x == ("__debug__" : Str)) = false) : PE X (.Name x pos) (tC v) := by
  obtain ⟨u, hm, r⟩ := h
  exact pe_glob hg hm r hd
/-- slots by a list -/
def mB (L : List Nat) (i : Nat) : Bool := L.contains i
theorem mB_sub {L M : List Nat} (h : (L.all fun i => M.contains i) = true) : ∀ i, mB L i = true → mB M i = true := fun i hi =>
  List.all_eq_true.mp h i (List.contains_iff_mem.mp hi)
theorem mB_all {L M : List Nat} (h : (L.all fun i => M.contains i) = true) : ∀ i ∈ L, mB M i = true := fun i hi => List.all_eq_true.mp h i hi
theorem mB_kp {kp : List Bool} {M : List Nat} (h : ((List.range kp.length).all fun i => !(kp.getD i false) || !(M.contains i)) = true) : ∀ i, kp.getD i false = true → mB M i = false := fun i hi => by
  have hl : i < kp.length := by
    rw [List.getD_eq_getElem?_getD] at hi
    by_cases e : i < kp.length
    · exact e
    · rw [List.getElem?_eq_none (by omega)] at hi
      cases hi
  have := List.all_eq_true.mp h i (List.mem_range.mpr hl)
  rw [hi] at this
  unfold mB
  simpa using this
/-! ### what a for watches -/
theorem hg_valV {ie : IE} {B' : Nat → Bool} (h : ∀ ρ r ρ1, evE p Φ ie ρ = .ok r ρ1 → ∃ s, r = .val s) : ∀ ρ q ρ1 j, evI p Φ (.val ie) ρ = .ok q ρ1 → q.2 = some j → B' j = false := fun ρ q ρ1 j hq hj => by
  unfold evI at hq
  cases ho : evE p Φ ie ρ with
  | bad =>
    rw [ho] at hq
    cases hq
  | exc c fs ρ1 =>
    rw [ho] at hq
    cases hq
  | ok r ρ2 =>
    obtain ⟨s, rfl⟩ := h ρ r ρ2 ho
    rw [ho] at hq
    cases s with
    | exc c fs => cases hq
    | glt ds => cases hq
    | own c => cases c with
      | lst ds =>
        cases hq
        cases hj
      | dic t kvs => cases hq
    | dat d => cases d with
      | list ds =>
        cases hq
        cases hj
      | tuple ds =>
        cases hq
        cases hj
      | str x =>
        cases hq
        cases hj
      | _ => cases hq
theorem v_glb {x : Str} {d : PyData} : ∀ ρ r ρ1, evE p Φ (.glb x d) ρ = .ok r ρ1 → ∃ s, r = .val s := fun ρ r ρ1 h => by
  unfold evE at h
  cases h
  exact ⟨_, rfl⟩
theorem v_lit {d : PyData} : ∀ ρ r ρ1, evE p Φ (.lit d) ρ = .ok r ρ1 → ∃ s, r = .val s := fun ρ r ρ1 h => by
  unfold evE at h
  cases h
  exact ⟨_, rfl⟩
theorem svR_val {o : Option Sv} {r : Rv} (h : svR ρ o = .ok r ρ1) : ∃ s, r = .val s := by
  cases o with
  | none => cases h
  | some s =>
    cases h
    exact ⟨_, rfl⟩
theorem datR_val {o : Option PyData} {r : Rv} (h : datR ρ o = .ok r ρ1) : ∃ s, r = .val s := by
  cases o with
  | none => cases h
  | some s =>
    cases h
    exact ⟨_, rfl⟩
theorem bind_ok {α β : Type} {o : Res α} {f : α → Env → Res β} {b : β} (h : o.bind f = .ok b ρ2) : ∃ a ρ1, o = .ok a ρ1 ∧ f a ρ1 = .ok b ρ2 := by
  cases o with
  | ok a ρ1 => exact ⟨a, ρ1, rfl, h⟩
  | exc c fs ρ1 => cases h
  | bad => cases h
theorem v_lst {es : List IE} : ∀ ρ r ρ1, evE p Φ (.lst es) ρ = .ok r ρ1 → ∃ s, r = .val s := fun ρ r ρ1 h => by
  unfold evE at h
  obtain ⟨rs, ρ2, h1, h2⟩ := bind_ok h
  cases e : frzAll ρ2 rs with
  | none =>
    rw [e] at h2
    cases h2
  | some q =>
    rw [e] at h2
    obtain ⟨ds, ρ3⟩ := q
    have h2 : (if fitN ds.length = true then Res.ok (Rv.val (Sv.own (Ct.lst ds))) ρ3 else Res.bad) = .ok r ρ1 := h2
    split at h2
    · cases h2
      exact ⟨_, rfl⟩
    · cases h2
theorem v_ix {a b : IE} : ∀ ρ r ρ1, evE p Φ (.ix a b) ρ = .ok r ρ1 → ∃ s, r = .val s := fun ρ r ρ1 h => by
  unfold evE at h
  obtain ⟨rs, ρ2, h1, h2⟩ := bind_ok h
  obtain ⟨qs, ρ3, h3, h4⟩ := bind_ok h2
  exact datR_val h4
theorem v_slc {a : IE} {l h : Option IE} : ∀ ρ r ρ1, evE p Φ (.slc a l h) ρ = .ok r ρ1 → ∃ s, r = .val s := fun ρ r ρ1 h => by
  unfold evE at h
  obtain ⟨rs, ρ2, h1, h2⟩ := bind_ok h
  obtain ⟨qs, ρ3, h3, h4⟩ := bind_ok h2
  obtain ⟨ts, ρ4, h5, h6⟩ := bind_ok h4
  exact svR_val h6
theorem v_blt {b : Blt} {es : List IE} : ∀ ρ r ρ1, evE p Φ (.blt b es) ρ = .ok r ρ1 → ∃ s, r = .val s := fun ρ r ρ1 h => by
  unfold evE at h
  obtain ⟨rs, ρ2, h1, h2⟩ := bind_ok h
  exact svR_val h2
theorem callF_val {φ : Orc} {f : Nat} {kp : List Bool} {rs : List Rv} {r : Rv} (h : callF φ f kp rs ρ = .ok r ρ1) : ∃ s, r = .val s := by
  unfold callF at h
  split at h
  · cases h
  · split at h
    · cases h
    · split at h
      · cases h
        exact ⟨_, rfl⟩
      · cases h
    · split at h <;> cases h
theorem v_call {f : Nat} {es : List IE} : ∀ ρ r ρ1, evE p Φ (.call f es) ρ = .ok r ρ1 → ∃ s, r = .val s := fun ρ r ρ1 h => by
  unfold evE at h
  obtain ⟨rs, ρ2, h1, h2⟩ := bind_ok h
  exact callF_val h2
theorem hg_enum {e : IE} {B' : Nat → Bool} : ∀ ρ q ρ1 j, evI p Φ (.enum e) ρ = .ok q ρ1 → q.2 = some j → B' j = false := fun ρ q ρ1 j hq hj => by
  unfold evI at hq
  obtain ⟨r, ρ2, h1, h2⟩ := bind_ok hq
  split at h2
  · split at h2
    · cases h2
      cases hj
    · cases h2
  · split at h2
    · cases h2
      cases hj
    · cases h2
theorem hg_zip {a b : IE} {B' : Nat → Bool} : ∀ ρ q ρ1 j, evI p Φ (.zip a b) ρ = .ok q ρ1 → q.2 = some j → B' j = false := fun ρ q ρ1 j hq hj => by
  unfold evI at hq
  obtain ⟨r, ρ2, h1, h2⟩ := bind_ok hq
  obtain ⟨r2, ρ3, h3, h4⟩ := bind_ok h2
  split at h4
  · cases h4
    cases hj
  · cases h4
    cases hj
  · cases h4

/-! ### the classes -/
/-- the n-th class's address -/
def caOf (K : PySem.W.Frag) (cn : List Str) (c : Nat) : Addr := He.ga K (cn.getD c (cn.headD Str.empty))
/-- one under the other, by a table -/
def subOf (t : List (List Bool)) (n c k : Nat) : Bool := (t.getD (if c < n then c else 0) []).getD (if k < n then k else 0) false
/-! ### a law's facts -/
inductive Fk where
  | he (f : He.Fa)
  | bfun (x : Str) (id : String)
  | exx (cn : List Str) (t : List (List Bool))
  | st
  | tup (x : Str) (d : PyData)
  | tupG (x : Str) (ds : List PyData)
  | sysm
mutual
/-- the value, as it stands in the written part, is the data -/
def datB (K : PySem.W.Frag) : PyData → Value → Bool
  | .none, v => (match v with
    | .none => true
    | _ => false)
  | .bool b, v => (match v with
    | .bool c => b == c
    | _ => false)
  | .int i, v => (match v with
    | .int j _ => decide (i = j)
    | _ => false)
  | .str x, v => (match v with
    | .str y _ => decide (x = y)
    | _ => false)
  | .tuple ds, v => (match v with
    | .ref a => conLike (.tuple ds) && (match K.lookup a with
      | some o => decide (o.cls = .type "tuple") && (match o.data with
        | .seq its _ => decide (its.size ≤ sizeLine) && datsB K ds its.toList
        | _ => false)
      | none => false)
    | _ => false)
  | _, _ => false
def datsB (K : PySem.W.Frag) : List PyData → List Value → Bool
  | [], vs => vs.isEmpty
  | d :: ds, vs => (match vs with
    | v :: vs => datB K d v && datsB K ds vs
    | [] => false)
end
mutual
theorem datB_ok : ∀ {d : PyData} {v : Value}, datB K d v = true → ∃ x : V, RelV x v ∧ ∀ F, Rp K F x d
  | .none, v, h => by
    cases v with
    | none => exact ⟨.non, rfl, fun _ => .non⟩
    | _ => cases h
  | .bool b, v, h => by
    cases v with
    | bool c =>
      have e := eq_of_beq (show (b == c) = true from h)
      subst e
      exact ⟨.bl b, rfl, fun _ => .bl _⟩
    | _ => cases h
  | .int i, v, h => by
    cases v with
    | int j t =>
      have e := of_decide_eq_true (show decide (i = j) = true from h)
      subst e
      exact ⟨.int i, ⟨t, rfl⟩, fun _ => .int _⟩
    | _ => cases h
  | .str x, v, h => by
    cases v with
    | str y t =>
      have e := of_decide_eq_true (show decide (x = y) = true from h)
      subst e
      exact ⟨.str x, ⟨t, rfl⟩, fun _ => .str _⟩
    | _ => cases h
  | .tuple ds, v, h => by
    cases v with
    | ref a =>
      obtain ⟨h1, h2⟩ := Bool.and_eq_true_iff.mp (show (conLike (.tuple ds) && _) = true from h)
      cases ho : K.lookup a with
      | none =>
        rw [ho] at h2
        cases h2
      | some o =>
        rw [ho] at h2
        obtain ⟨h3, h4⟩ := Bool.and_eq_true_iff.mp (show (decide (o.cls = .type "tuple") && _) = true from h2)
        cases hd : o.data with
        | seq its n =>
          rw [hd] at h4
          obtain ⟨h5, h6⟩ := Bool.and_eq_true_iff.mp (show (decide (its.size ≤ sizeLine) && datsB K ds its.toList) = true from h4)
          obtain ⟨xs, hv, hr⟩ := datsB_ok h6
          exact ⟨.ref a, rfl, fun F => .con ⟨o, its, n, ho, of_decide_eq_true h3, hd, of_decide_eq_true h5, hv⟩ h1 (hr F)⟩
        | _ =>
          rw [hd] at h4
          cases h4
    | _ => cases h
  | .list _, _, h => by cases h
  | .dict _, _, h => by cases h
theorem datsB_ok : ∀ {ds : List PyData} {vs : List Value}, datsB K ds vs = true → ∃ xs : List V, Vals xs vs ∧ ∀ F, RpAll K F xs ds
  | [], vs, h => by
    cases vs with
    | nil => exact ⟨[], .nil, fun _ => .nil⟩
    | cons _ _ => cases h
  | d :: ds, vs, h => by
    cases vs with
    | nil => cases h
    | cons v vs =>
      obtain ⟨h1, h2⟩ := Bool.and_eq_true_iff.mp (show (datB K d v && datsB K ds vs) = true from h)
      obtain ⟨x, r1, q1⟩ := datB_ok h1
      obtain ⟨xs, r2, q2⟩ := datsB_ok h2
      exact ⟨x :: xs, .cons r1 r2, fun F => .cons (q1 F) (q2 F)⟩
end
def tupB (K : PySem.W.Frag) (x : Str) (d : PyData) : Bool := match PySem.W.nsIn K mainGlobals x with
  | some (some v) => datB K d v
  | _ => false
def eqOB (a b : Option Bool) : Bool := decide (a = b)
def eqOV (a b : Option Value) : Bool := decide (a = b)
def excCB (K : PySem.W.Frag) (D : Addr) : Bool :=
  He.eqO (PySem.W.findIn K (.ref D) "__getattribute__") (some (some (.builtin "BaseException.__getattribute__"))) && (He.eqO (PySem.W.findIn K (.ref D) "__getattr__") (some none) && (eqOB (PySem.W.subIn K (.ref D) (.type "BaseException")) (some true) && (PySem.W.hasDictIn K D &&
  (He.eqO (PySem.W.findIn K (.ref D) "__class__") (some (some (.builtin "object.__class__"))) && (He.eqO (PySem.W.specialIn K (.builtin "object.__class__") "__get__") (some (some (.builtin "getset_descriptor.__get__"))) && (eqOB (PySem.W.takesIn K (.builtin "object.__class__")) (some true) && eqOB (PySem.W.mroIn K D (.type "object")) (some true)))))))
theorem excCB_ok {D : Addr} (h : excCB K D = true) : ExcC K D := by
  obtain ⟨h1, h⟩ := He.ba h
  obtain ⟨h2, h⟩ := He.ba h
  obtain ⟨h3, h⟩ := He.ba h
  obtain ⟨h4, h⟩ := He.ba h
  obtain ⟨h5, h⟩ := He.ba h
  obtain ⟨h6, h⟩ := He.ba h
  obtain ⟨h7, h8⟩ := He.ba h
  exact ⟨He.eqO_ok h1, He.eqO_ok h2, of_decide_eq_true h3, h4, He.eqO_ok h5, He.eqO_ok h6, of_decide_eq_true h7, of_decide_eq_true h8⟩
def exxB (K : PySem.W.Frag) (cn : List Str) (t : List (List Bool)) : Bool := (List.range cn.length).all fun c => excCB K (caOf K cn c) && ((He.Fa.exc (cn.getD c Str.empty)).ok K && (List.range cn.length).all fun k =>
  eqOB (PySem.W.exmOne K (.ref (caOf K cn c)) (.ref (caOf K cn k))) (some ((t.getD c []).getD k false)) && eqOB (PySem.W.kitOne K (.ref (caOf K cn c)) (.ref (caOf K cn k))) (some ((t.getD c []).getD k false)))
def bfunB (K : PySem.W.Frag) (x : Str) (id : String) : Bool := He.eqO (PySem.W.nsIn K mainGlobals x) (some (some (.builtin id)))
def Fk.ok (K : PySem.W.Frag) : Fk → Bool
  | .he f => f.ok K
  | .bfun x id => bfunB K x id
  | .exx cn t => exxB K cn t
  | .tup x d => tupB K x d
  | .tupG x ds => tupB K x (.tuple ds) && (match PySem.W.nsIn K mainGlobals x with
    | some (some (.ref a)) => (match K.lookup a with
      | some o => decide (o.cls = .type "tuple") && o.dict.isNone
      | none => false)
    | _ => false)
  | .sysm => (match K.lookup sysModules with
    | some o => decide (o.cls = .type "dict")
    | none => false)
  | .st => He.eqO (PySem.W.nsIn K cStatics "sys.int_max_str_digits") (some none)
theorem st_ok (c : Fk.st.ok K = true) : PySem.W.nsIn K cStatics "sys.int_max_str_digits" = some none := He.eqO_ok c
theorem sysm_ok (c : Fk.sysm.ok K = true) : SysM K := by
  have c : (match K.lookup sysModules with
    | some o => decide (o.cls = .type "dict")
    | none => false) = true := c
  cases e : K.lookup sysModules with
  | none =>
    rw [e] at c
    cases c
  | some o =>
    rw [e] at c
    exact ⟨o, e, of_decide_eq_true c⟩
section
variable {h : Heap} {mg : Str → Option Value}
theorem tup_ok (X : K.In h) (G : h.Ns mainGlobals mg) {x : Str} {d : PyData} (c : (Fk.tup x d).ok K = true) : ∃ (u : Value) (v : V), mg x = some u ∧ RelV v u ∧ ∀ F, Rp K F v d := by
  have c : tupB K x d = true := c
  unfold tupB at c
  split at c
  · rename_i u hu
    obtain ⟨v, r, q⟩ := datB_ok c
    exact ⟨u, v, PySem.W.mg_of X G hu, r, q⟩
  · cases c
theorem tupG_ok (X : K.In h) (G : h.Ns mainGlobals mg) {x : Str} {ds : List PyData} (c : (Fk.tupG x ds).ok K = true) : ∃ a : Addr, mg x = some (.ref a) ∧ ∀ E F H, SvAt K E F H (.ref a) (.glt ds) := by
  obtain ⟨c1, c2⟩ := Bool.and_eq_true_iff.mp (show (tupB K x (.tuple ds) && (match PySem.W.nsIn K mainGlobals x with
    | some (some (.ref a)) => (match K.lookup a with
      | some o => decide (o.cls = .type "tuple") && o.dict.isNone
      | none => false)
    | _ => false)) = true from c)
  split at c2
  · rename_i a ha
    split at c2
    · rename_i o ho
      obtain ⟨c3, c4⟩ := Bool.and_eq_true_iff.mp c2
      unfold tupB at c1
      rw [ha] at c1
      have c1 : (conLike (.tuple ds) && (match K.lookup a with
        | some o => decide (o.cls = .type "tuple") && (match o.data with
          | .seq its _ => decide (its.size ≤ sizeLine) && datsB K ds its.toList
          | _ => false)
        | none => false)) = true := c1
      obtain ⟨h1, h2⟩ := Bool.and_eq_true_iff.mp c1
      rw [ho] at h2
      obtain ⟨h3, h4⟩ := Bool.and_eq_true_iff.mp (show (decide (o.cls = .type "tuple") && _) = true from h2)
      cases hd : o.data with
      | seq its n =>
        rw [hd] at h4
        obtain ⟨h5, h6⟩ := Bool.and_eq_true_iff.mp (show (decide (its.size ≤ sizeLine) && datsB K ds its.toList) = true from h4)
        obtain ⟨xs, hv, hr⟩ := datsB_ok h6
        exact ⟨a, PySem.W.mg_of X G ha, fun E F H => ⟨a, xs, rfl, ⟨o, ho, of_decide_eq_true c3, Option.isNone_iff_eq_none.mp c4⟩, ⟨o, its, n, ho, of_decide_eq_true c3, hd, of_decide_eq_true h5, hv⟩, h1, hr⟩⟩
      | _ =>
        rw [hd] at h4
        cases h4
    · cases c2
  · cases c2
theorem bfun_ok (X : K.In h) (G : h.Ns mainGlobals mg) {x : Str} {id : String} (c : (Fk.bfun x id).ok K = true) : mg x = some (.builtin id) := PySem.W.mg_of X G (He.eqO_ok c)
end
theorem ca_clamp (cn : List Str) (c : Nat) : caOf K cn c = caOf K cn (if c < cn.length then c else 0) := by
  by_cases h : c < cn.length
  · rw [if_pos h]
  · rw [if_neg h]
    unfold caOf
    rw [List.getD_eq_getElem?_getD, List.getElem?_eq_none (by omega)]
    cases cn with
    | nil => rfl
    | cons a r => rfl
/-- what the classes are -/
structure Exx (K : PySem.W.Frag) (ca : Nat → Addr) (sub : Sub) : Prop where
  cls : ∀ c, ExcC K (ca c)
  exm : ∀ c k, PySem.W.exmOne K (.ref (ca c)) (.ref (ca k)) = some (sub c k)
  kit : ∀ c k, PySem.W.kitOne K (.ref (ca c)) (.ref (ca k)) = some (sub c k)
theorem exx_ok {cn : List Str} {t : List (List Bool)} (h0 : 0 < cn.length) (c : (Fk.exx cn t).ok K = true) : Exx K (caOf K cn) (subOf t cn.length) := by
  have lt : ∀ c, (if c < cn.length then c else 0) < cn.length := fun c => by
    by_cases h : c < cn.length
    · rw [if_pos h]; exact h
    · rw [if_neg h]; exact h0
  have at_ := fun d (hc : d < cn.length) => List.all_eq_true.mp (show exxB K cn t = true from c) d (List.mem_range.mpr hc)
  refine ⟨fun c => ?_, fun c k => ?_, fun c k => ?_⟩
  · rw [ca_clamp]
    exact excCB_ok (He.ba (at_ _ (lt c))).1
  · rw [ca_clamp cn c, ca_clamp cn k]
    have := List.all_eq_true.mp (He.ba (He.ba (at_ _ (lt c))).2).2 _ (List.mem_range.mpr (lt k))
    exact of_decide_eq_true (He.ba this).1
  · rw [ca_clamp cn c, ca_clamp cn k]
    have := List.all_eq_true.mp (He.ba (He.ba (at_ _ (lt c))).2).2 _ (List.mem_range.mpr (lt k))
    exact of_decide_eq_true (He.ba this).2
theorem exx_exc {cn : List Str} {t : List (List Bool)} (c : (Fk.exx cn t).ok K = true) (i : Nat) {x : Str} (hx : cn[i]? = some x) : (He.Fa.exc x).ok K = true := by
  have hi : i < cn.length := (List.getElem?_eq_some_iff.mp hx).1
  have := (He.ba (He.ba (List.all_eq_true.mp (show exxB K cn t = true from c) i (List.mem_range.mpr hi))).2).1
  rw [List.getD_eq_getElem?_getD, hx] at this
  exact this
/-- X('m') -/
theorem mk_own {x m : Str} {j : Nat} {pp p2 pos : Pos} {C : Addr} (e : (He.Fa.exc x).ok X.K = true) (gC : X.mg x = some (.ref C)) (hC : He.ga X.K x = C) (hg : Gl X x) (hdb : (x == ("__debug__" : Str)) = false) : PMk X (.Call (.Name x pp) [.Constant (.str m) j p2] [] pos) (fun _ H Q => Q (.ref C) none H) := by
  subst hC
  obtain ⟨h1, h2, h3, h4⟩ := He.exc_ok e
  exact pmk_own PySem.F.excBase_ValueError h1 gC h2 (raises_own h3 h4) hg hdb

/-! ### defs that are called -/
structure Cal (P : Program) (w : World) (K : PySem.W.Frag) (mg : Str → Option Value) (base : Heap) (k : Nat) (x : Str) (f : Addr) (fd : FuncData) (ps : List Str) (sp : Sp) : Prop where
  g : FnG P w K mg base k f fd ps sp
  m : mg x = some (.ref f)
  k : PySem.W.keepIn K (.ref f) = true
  b : Binds K fd ps []
theorem kb_of {x qual : Str} {params : Arguments} {body : List Stmt} {scope : Scope} {kws : List (Str × V)} {f : Addr} {fd : FuncData} {ps ks : List Str} {n : Nat} {pl : List Nat} (D : FunD K x qual params body scope [] kws f fd)
    (h : ∀ (kV doc pm : Value) (an : Option Addr) (cdv ct : Value) (us ws : List Value), us.length = n → ws.length = ks.length → bindArgs (PySem.W.fnOf x qual params body scope .none kV doc pm an cdv ct) ⟨us, ks.zip ws⟩ = pure (ps.zip (ordU pl (us ++ ws)))) : KB K fd ps n ks pl := by
  obtain ⟨oc, od, dV, kV, doc, pm, an, cdv, ct, osl, rfl, lk, hcd, hD, hK⟩ := D.ex
  rcases hD with ⟨_, rfl⟩ | ⟨e, _⟩
  · exact fun s us ws _ h1 h2 => .of_eq (h kV doc pm an cdv ct us ws h1 h2)
  · exact absurd rfl e

/-! ### the Hook -/
def obsK (fk : List Fk) (fn : List He.DefD) (K : PySem.W.Frag) : He.AlD := ((fk.all fun f => f.ok K) && fn.all fun d => d.ok K, fn.map fun d => He.fnW K d.at_)
def SaysK (fk : List Fk) (fn : List He.DefD) (K : PySem.W.Frag) : Prop := obsK fk fn K = He.valD fn
def asK (g : Addr → Option Obj) (n : Nat) : List Addr := cStatics :: sysModules :: He.asD g n
def obsKG (n : Nat) (fk : List Fk) (fn : List He.DefD) (g : Addr → Option Obj) : He.AlD := obsK fk fn (He.frG g (asK g n))
def hookK (n : Nat) (fk : List Fk) (fn : List He.DefD) : PySem.W.Hook where
  α := He.AlD
  obs := fun s => obsKG n fk fn s.heap.get?
  val := fun _ => He.valD fn
  says := fun _ h => ∃ K : PySem.W.Frag, K.In h ∧ SaysK fk fn K
  of := fun _ _ e => ⟨_, He.frG_in, e⟩
  keeps := fun _ _ _ ⟨K, hK, c⟩ k => ⟨K, PySem.W.Frag.In.keeps hK k, c⟩
theorem obsKG_eq {n : Nat} {fk : List Fk} {fn : List He.DefD} {g : Addr → Option Obj} {s : Shared} (h : ∀ a, g a = s.heap.get? a) : obsKG n fk fn g = (hookK n fk fn).obs s := by
  have e : g = s.heap.get? := funext h
  subst e
  rfl
section
variable {fk : List Fk} {fn : List He.DefD}
theorem SaysK.fact (c : SaysK fk fn K) (i : Nat) {f : Fk} (h : fk[i]? = some f) : f.ok K = true := by
  have c1 := (He.ba (show ((fk.all fun f => f.ok K) && fn.all fun d => d.ok K) = true from congrArg (fun z : He.AlD => z.1) c)).1
  exact List.all_eq_true.mp c1 f (List.mem_of_getElem? h)
theorem SaysK.def_ (c : SaysK fk fn K) (i : Nat) {d : He.DefD} (h : fn[i]? = some d) : ∃ fd, FunD K d.name d.qual d.params d.body d.scope (d.dvs K) (d.kws K) (He.fAd K d.at_) fd := by
  have c2 := (He.ba (show ((fk.all fun f => f.ok K) && fn.all fun d => d.ok K) = true from congrArg (fun z : He.AlD => z.1) c)).2
  have e : fn.map (fun d => He.fnW K d.at_) = fn.map He.DefD.val := congrArg (fun z : He.AlD => z.2) c
  have e2 : (fn.map fun d => He.fnW K d.at_)[i]? = (fn.map He.DefD.val)[i]? := by rw [e]
  rw [List.getElem?_map, List.getElem?_map, h] at e2
  exact He.DefD.funD (Option.some.inj e2) (List.all_eq_true.mp c2 d (List.mem_of_getElem? h))
end
end Mini
/-! Mini, part V: repr of a list of ints of any size that the limit lets through. -/
namespace Mini
open PySem L2
variable {X : Cx} {K : PySem.W.Frag}
section
variable {prog : Program} {w : World} {A : Around} {E : Value → Shared → Prop} {s : Shared}
/-- the limit stands where it stands at the start -/
def NoDig (h : Heap) : Prop := ∃ mc, h.Ns cStatics mc ∧ mc "sys.int_max_str_digits" = none
theorem over_mid {M : Model} {i : Int} {Q : Option Nat → Shared → Prop} (hn : NoDig s.heap) (hb : i.natAbs.log2 < 12900) (h : Q none s) : wpAny M A (Builtin.overDigitLimit? i) Q E s := by
  obtain ⟨mc, hn, h0⟩ := hn
  unfold Builtin.overDigitLimit?
  by_cases c : i.natAbs.log2 < 1920
  · rw [if_pos c]
    exact wpAny_pure h
  · rw [if_neg c]
    refine wpAny_bind ?_
    unfold Builtin.intMaxStrDigits
    refine wpAny_bind (wpAny_nsGet hn ?_)
    rw [h0]
    refine wpAny_pure ?_
    have c1 : ¬ (i.natAbs.log2 / 30 + 1 > 1000) := by omega
    have c2 : ((4300 : Nat) == 0 || decide (i.natAbs.log2 < 3 * 4300)) = true := by
      rw [Bool.or_eq_true_iff]
      exact .inr (decide_eq_true hb)
    dsimp only
    rw [if_neg c1]
    try rw [if_pos c2]
    exact wpAny_pure h
theorem int_repr_meets (a : Int) (t : Tok) : Meets (Builtin.«int.__repr__» ⟨[.int a t], []⟩) (fun A R s => NoDig s.heap ∧ a.natAbs.log2 < 12900 ∧ R (.ok (.ret (.str (toString a) s.toks))) { s with toks := s.toks + 1 }) := by
  intro prog w A R s hs
  obtain ⟨hn, hb, hq⟩ := hs
  unfold Builtin.«int.__repr__»
  show wpAny _ _ (do let r ← Builtin.overDigitLimit? a; _) _ _ _
  refine wpAny_bind (over_mid hn hb ?_)
  exact (Gives.of_eq rfl : Gives _ (Made.str (toString a))) prog w A R s ⟨by
    have e := int_text_length_le (k := 12900) (by decide) hb
    rw [ofString_length, sizeLine_eq]
    omega, hq⟩
theorem int_k {h₀ : Heap} {a : Int} (t : Tok) (hn : NoDig h₀) (hb : a.natAbs.log2 < 12900) (d : Nat) : ReprK prog w [] h₀ d (.int a t) (toString a) := by
  intro base hz A g E s Q hg hcl hu hk0 hQ
  have hn' : NoDig s.heap := let ⟨mc, h1, h2⟩ := hn; ⟨mc, h1.keeps hk0, h2⟩
  rw [pyReprUnder_leaf (v := .int a t) (by omega) (fun _ e => nomatch e)]
  unfold pyRepr
  refine wpAny_bind (wpAny_pyReprObj_slot (by omega) (typeIs_int s a t) F.slot_int_repr.toG (call_meets F.slot_int_repr (typeIs_int s a t) F.entry_int_repr (F.args_int_repr_1 _) (int_repr_meets a t) ⟨hn', hb, ?_⟩))
  exact ⟨_, _, rfl, wpAny_pure (hQ s.heap _ fun _ _ e => e)⟩
end
theorem ints_k {prog : Program} {w : World} {h₀ : Heap} (hn : NoDig h₀) : ∀ {xs : List PyData} {us : List Value} {vs : List V} {H : Hp}, xs.all intB = true → RpAll K H vs xs → Vals vs us → us.length = (PyData.shownAll xs).length ∧ ∀ (i : Nat) (y : Value), us[i]? = some y → ∃ t, (PyData.shownAll xs)[i]? = some t ∧ ReprK prog w [] h₀ 1 y t
  | [], us, vs, H, _, r, q => by
    cases r
    cases q
    exact ⟨rfl, fun i y e => by simp at e⟩
  | x :: xs, us, vs, H, c, r, q => by
    obtain ⟨c1, c2⟩ := Bool.and_eq_true_iff.mp (show (intB x && xs.all intB) = true from c)
    cases r with
    | cons r1 r2 => cases q with
      | cons q1 q2 =>
        obtain ⟨h1, h2⟩ := ints_k hn c2 r2 q2
        refine ⟨by simp only [PyData.shownAll, List.length_cons, h1], fun i y e => ?_⟩
        cases i with
        | zero =>
          cases x with
          | int j =>
            cases r1
            obtain ⟨t, rfl⟩ := q1
            simp at e
            subst e
            exact ⟨_, rfl, int_k t hn (of_decide_eq_true c1) 1⟩
          | _ => cases c1
        | succ i =>
          obtain ⟨t, e1, k⟩ := h2 i y (by simpa using e)
          exact ⟨t, by simpa [PyData.shownAll] using e1, k⟩
theorem ns_none {h : Heap} {a : Addr} {m : Str → Option Value} {n : Str} (KX : K.In h) (G : h.Ns a m) (e : PySem.W.nsIn K a n = some none) : m n = none := by
  obtain ⟨o, es, ep, ho, hd, _, hf⟩ := G
  unfold PySem.W.nsIn at e
  split at e
  · rename_i c d es' n' sl q
    have z := KX _ _ q
    rw [ho] at z
    cases z
    cases hd
    split at e
    · cases e
    · rename_i he
      have hf := hf n
      rw [← hf]
      unfold nsFind findBy
      rw [← Array.find?_toList, he]
      rfl
  · cases e
theorem c_reprI (hst : PySem.W.nsIn X.K cStatics "sys.int_max_str_digits" = some none) (hu : X.A.units + 66 < cLine) (hgd : X.A.guards = some []) : CallR X (.builtin "repr") (rAny X.K (bltD .reprI)) := any1 (fun F H v d z Q ex hd hf q pins s σ us I r => by
  cases d with
  | list ds => cases ds with
    | nil => cases hf
    | cons x xs =>
      have hf : (if ((x :: xs).all intB && decide ((PyData.shown (.list (x :: xs))).length ≤ 1000000)) = true then some (Sv.dat (.str (PyData.shown (.list (x :: xs))))) else none) = some z := hf
      obtain ⟨c, rfl⟩ := if_some hf
      obtain ⟨c1, c4⟩ := Bool.and_eq_true_iff.mp c
      have c4 := of_decide_eq_true c4
      obtain ⟨a, ws, rfl, hl, rr⟩ := hd.lst ex
      obtain ⟨u, rfl, ru⟩ := Vals.one r
      cases ru
      obtain ⟨its, rv, ⟨o, n, e1, e2, e3, e4⟩, hz⟩ := I.list hl
      have hn : NoDig s.heap := by
        obtain ⟨mc, h1, h2⟩ := I.mod.nolimit
        have h1 := h1.keeps I.bk
        exact ⟨mc, h1, ns_none I.kIn h1 hst⟩
      obtain ⟨k1, k2⟩ := ints_k (prog := X.prog) (w := X.w) hn c1 rr rv
      cases its with
      | nil =>
        simp [PyData.shownAll] at k1
      | cons i0 ir =>
        refine call_repr_slot (T := "list") (by omega) ⟨o, e1, e2⟩ PySem.F.slot_list_repr.toG ?_
        refine call_list_reprK (as := []) (h₀ := s.heap) (d := 1) (ts := PyData.shownAll (x :: xs)) e1 e2 e4 List.not_mem_nil (by simpa using k1.symm) (fun i y e => k2 i y (by simpa using e)) hgd (fun b _ => Clear.nil b) (by show X.A.units + 1 + (1 + 1) < cLine; omega) (fun _ _ e => e) (fun h' u tk hk => ⟨_, _, rfl, ?_⟩) ?_
        · exact ⟨.str _, H, I.kept (h' := h') (t' := tk) hk, ⟨u, by simp only [PyData.shown]⟩, str_new ex q⟩
        · have := Nat.le_trans c4 line1
          simpa only [PyData.shown] using this
  | _ => cases hf) rfl fun d e r => by
    cases d with
    | list xs => cases xs <;> rfl
    | _ => rfl
end Mini
/-! Mini, part Va: constants of the module, things turned about, texts of ints, methods. -/
namespace HT
open PySem PySem.Spec PyProof.Rows L2
section
variable {prog : Program} {w : World} {A : Around} {E : Value → Shared → Prop} {s : Shared}
theorem back_adj (n : Nat) : Builtin.Slice.sliceAdjust none none (-1) (n : Int) = ((n : Int) - 1, -1) := rfl
theorem back_pl (n : Nat) : Builtin.Slice.slicePlaces ((n : Int) - 1) (-1) (-1) = n := by
  unfold Builtin.Slice.slicePlaces
  rw [if_neg (by decide)]
  by_cases h : (n : Int) - 1 > -1
  · rw [if_pos h, show (-(-1) : Int) = 1 by decide, Int.ediv_one]
    omega
  · rw [if_neg h]
    omega
theorem fm_congr {α β : Type} {f g : α → Option β} : ∀ {l : List α}, (∀ x ∈ l, f x = g x) → l.filterMap f = l.filterMap g
  | [], _ => rfl
  | x :: l, h => by
    rw [List.filterMap_cons, List.filterMap_cons, h x List.mem_cons_self, fm_congr fun y hy => h y (List.mem_cons_of_mem _ hy)]
theorem back_pick (xs : Array Value) : ((List.range xs.size).filterMap fun (m : Nat) => xs[(((xs.size : Int) - 1) + (m : Int) * (-1)).toNat]?).toArray = xs.toList.reverse.toArray := by
  have e1 : (List.range xs.size).filterMap (fun (m : Nat) => xs[(((xs.size : Int) - 1) + (m : Int) * (-1)).toNat]?) = ((List.range xs.size).map fun k => xs.size - 1 - k).filterMap (xs[·]?) := by
    rw [List.filterMap_map]
    refine fm_congr fun m hm => ?_
    have := List.mem_range.mp hm
    have e : (((xs.size : Int) - 1) + (m : Int) * (-1)).toNat = xs.size - 1 - m := by omega
    rw [e]
    rfl
  rw [e1, PySem.W.krv_range, List.filterMap_reverse, PySem.W.krv_all]
theorem back_applied {sl : Addr} {vl vu vs : Value} {n : Nat} {Q : Int × Int × Nat → Shared → Prop} (hs : s.heap.IsSliceOf sl vl vu vs) (pl : IsPart vl none) (pu : IsPart vu none) (ps : IsPart vs (some (-1)))
    (h : Q ((n : Int) - 1, -1, n) s) : wpAny (model prog w) A (Builtin.Slice.sliceApplied (.ref sl) (pure (n : Int))) Q E s := by
  obtain ⟨o1, g1, g2, g3⟩ := id hs
  unfold Builtin.Slice.sliceApplied Builtin.Slice.sliceFields
  refine wpAny_bind (wpAny_bind (wpAny_field g1 g3 (x := vl) rfl (wpAny_bind (wpAny_field g1 g3 (x := vu) rfl (wpAny_bind (wpAny_field g1 g3 (x := vs) rfl (wpAny_pure ?_)))))))
  refine wpAny_bind (slicePart_ ps ?_)
  show wpAny _ _ (if ((-1 : Int) == 0) = true then _ else _) _ _ s
  rw [if_neg (show ¬ (((-1 : Int) == 0) = true) by decide)]
  refine wpAny_bind (slicePart_ pl (wpAny_bind (slicePart_ pu (wpAny_bind (wpAny_pure ?_)))))
  show wpAny _ _ (pure ((Builtin.Slice.sliceAdjust none none (-1) (n : Int)).1, (-1 : Int), Builtin.Slice.slicePlaces (Builtin.Slice.sliceAdjust none none (-1) (n : Int)).1 (Builtin.Slice.sliceAdjust none none (-1) (n : Int)).2 (-1))) _ _ s
  rw [back_adj, back_pl]
  exact wpAny_pure h
theorem getItem_tuple_back {t sl : Addr} {its : Array Value} {vl vu vs : Value} {Q : Value → Shared → Prop} (ht : IsTup s.heap t its) (hs : s.heap.IsSliceOf sl vl vu vs) (pl : IsPart vl none) (pu : IsPart vu none) (ps : IsPart vs (some (-1)))
    (h : Q (.ref s.heap.objs.size) { s with heap := s.heap.push { cls := .type "tuple", data := .seq its.toList.reverse.toArray } }) (hz : its.size ≤ sizeLine) : wpAny (model prog w) A (getItem (.ref t) (.ref sl)) Q E s := by
  have hk : sizeOk (.seq its.toList.reverse.toArray) := by
    show its.toList.reverse.toArray.size ≤ sizeLine
    rw [List.size_toArray, List.length_reverse, Array.length_toList]
    exact hz
  obtain ⟨o1, g1, g2, g3⟩ := id hs
  have ts : s.TypeIs (.ref sl) "slice" := ⟨o1, g1, g2⟩
  unfold getItem
  first
    | refine wpAny_holding ?_
    | skip
  first
    | refine wpAny_bind (wpAny_pure ?_)
    | skip
  refine wpAny_bind (wpAny_sequenceKey ht.typeIs (by decide) ?_)
  refine wpAny_bind (wpAny_callSpecial?_slot (name := Str.ofString "__getitem__") ht.typeIs slot_tuple_getitem (wpAny_call_entry slot_tuple_getitem ht.typeIs entry_tuple_getitem ?_ (args_tuple_getitem _ _)))
  show wpAny _ _ (Builtin.Tuple.tupleItemsOf (.ref t) >>= _) _ _ s
  refine wpAny_bind (tupleItemsOf_ ht (wpAny_bind (wpAny_typeOf ts ?_)))
  rw [if_pos (by decide)]
  refine wpAny_bind (back_applied (n := its.size) hs pl pu ps ?_)
  show wpAny _ _ (if (((its.size : Int) - 1) == 0 && (-1 : Int) == 1 && its.size == its.size) = true then _ else _) _ _ s
  rw [show ((-1 : Int) == 1) = false from rfl, Bool.and_false, Bool.false_and, if_neg Bool.false_ne_true, back_pick]
  first
    | exact wpAny_bind (m := Builtin.Tuple.tupleExact _) (wpAny_newObj_type (wpAny_pure ⟨_, rfl, wpAny_pure h⟩) hk)
    | exact wpAny_bind (m := Builtin.Tuple.tupleExact _) (wpAny_newObj_type (wpAny_bind (wpAny_pure (wpAny_pure ⟨_, rfl, wpAny_pure h⟩))) hk)
    | exact wpAny_bind (wpAny_bind (m := Builtin.Tuple.tupleExact _) (wpAny_newObj_type (wpAny_pure (wpAny_pure ⟨_, rfl, wpAny_pure h⟩)) hk))
    | exact wpAny_bind (wpAny_bind (m := Builtin.Tuple.tupleExact _) (wpAny_newObj_type (wpAny_pure ⟨_, rfl, wpAny_pure h⟩) hk))
end
end HT
namespace Mini
open PySem L2
open PyProof.Rows (IsTup subscriptTail tail_any)
variable {g : Gx} {ρ ρ1 ρ2 ρ3 : Env} {σ σ1 σ2 : St} {F H F1 H1 F2 H2 : Hp} {rs qs : List Rv} {vs us : List V} {X : Cx} {p : Pg} {Φ : Orc}
/-- x[::-1], a list or a tuple -/
def tBack (K : PySem.W.Frag) (te : TE) : TE := fun σ H Q => te σ H fun x H1 => ∃ a xs, x = .ref a ∧ ((SqL K H1 a xs ∧ ∀ p, H1 p = none → Q (.ref p) (upd H1 p (.lst xs.reverse))) ∨ (SqT K H1 a xs ∧ ∀ p, H1 p = none → Q (.ref p) (upd H1 p (.tup xs.reverse))))
theorem pe_back {e : Expr} {te : TE} {k : Nat} {p1 p2 p3 pos : Pos} (he : PE X e te) : PE X (.Subscript e (.Slice none none (some (.UnaryOp .USub (.Constant (.int 1) k p1) p2)) p3) pos) (tBack X.K te) := by
  refine ⟨fun pins s σ H Q I h => ?_⟩
  refine PyProof.Rows.Subscript_ (thn (he.run pins s σ H _ I h) fun v s1 ⟨x, H1, I1, r1, a, xs, ex, q1⟩ => ?_)
  subst ex
  cases r1
  refine wpAny_Slice (thn (po_none.run pins s1 σ H1 (fun o Z => o = none ∧ Z = H1) I1 ⟨rfl, rfl⟩) fun vl s2 ⟨l, H2, I2, pl, el, e2⟩ => ?_)
  subst el e2
  refine thn (po_none.run pins s2 σ H2 (fun o Z => o = none ∧ Z = H2) I2 ⟨rfl, rfl⟩) fun vu s3 ⟨u, H3, I3, pu, eu, e3⟩ => ?_
  subst eu e3
  have back : PO X (some (.UnaryOp .USub (.Constant (.int 1) k p1) p2)) (tPart (tUn (rU fun i => .int (-i)) (tC (.int 1)))) := po_some (pe_un un_neg pe_int)
  refine thn (back.run pins s3 σ H3 (fun o Z => o = some (-1) ∧ Z = H3) I3 ⟨1, rfl, -1, rfl, rfl, rfl⟩) fun vs s4 ⟨o, H4, I4, ps, eo, e4⟩ => ?_
  subst eo e4
  have I5 : Inv X pins σ H4 { s4 with heap := s4.heap.push { cls := .type "slice", data := .fields #[vl, vu, vs] } } := I4.kept (t' := s4.toks) fun _ _ z => Heap.get?_push_of_some _ z
  show wpAny (model X.prog X.w) X.A (subscriptTail e (.Slice none none (some (.UnaryOp .USub (.Constant (.int 1) k p1) p2)) p3) (.ref a) (.ref s4.heap.objs.size)) (L2.EP X pins σ Q) X.xe { s4 with heap := s4.heap.push { cls := .type "slice", data := .fields #[vl, vu, vs] } }
  rcases q1 with ⟨hx, q⟩ | ⟨hx, q⟩
  · obtain ⟨its, r, ht, hz⟩ := I5.list hx
    have hl := r.length
    refine tail_any (ops := [.ref a, .ref s4.heap.objs.size]) ht.isList.typeIs PySem.slot_list_getitem.lookup ?_ (by with_unfolding_all rfl)
    refine wpAny_getItem_list_slice ht.isList (Heap.IsSliceOf.new _ vl vu vs) pl pu ps (by decide) ?_ (by rw [List.size_toArray]; omega)
    rw [PySem.W.krv_pick]
    refine ⟨.ref _, _, I5.laid (t' := s4.toks) (o := .lst xs.reverse) (fun _ _ z => Heap.get?_push_of_some _ z) (Nat.le_refl _) ⟨by rw [List.length_reverse]; exact hz, _, 0, r.reverse, Heap.get?_push_size _ rfl⟩, rfl, q _ (I5.hok.fresh (Nat.le_refl _))⟩
  · obtain ⟨its, r, ht, hz⟩ := I5.tuple hx
    have hl := r.length
    refine tail_any (ops := [.ref a, .ref s4.heap.objs.size]) ht.typeIs PyProof.Rows.slot_tuple_getitem.lookup ?_ (by with_unfolding_all rfl)
    refine HT.getItem_tuple_back ht (Heap.IsSliceOf.new _ vl vu vs) pl pu ps ?_ (by rw [List.size_toArray]; omega)
    exact ⟨.ref _, _, I5.laid (t' := s4.toks) (o := .tup xs.reverse) (fun _ _ z => Heap.get?_push_of_some _ z) (Nat.le_refl _) ⟨by rw [List.length_reverse]; exact hz, _, r.reverse, IsTup.new _ _⟩, rfl, q _ (I5.hok.fresh (Nat.le_refl _))⟩
theorem e_rev {a : Expr} {ia : IE} {k : Nat} {p1 p2 p3 pos : Pos} (hK : g.K = X.K) (ha : ∀ ρ, PE X a (rdE g ρ (evE p Φ ia ρ))) (ρ : Env) : PE X (.Subscript a (.Slice none none (some (.UnaryOp .USub (.Constant (.int 1) k p1) p2)) p3) pos) (rdE g ρ (evE p Φ (.rev ia) ρ)) := by
  unfold evE
  refine pe1 (t := tBack X.K) (fun ta h => pe_back h) ha (fun ρ σ H Q ta k => k _ fun F r ρ1 v F1 H1 i x w => ?_) ρ
  cases e : r.data ρ1 with
  | none =>
    rw [e] at w
    exact w.elim
  | some d =>
    rw [e] at w
    have hd := x.data1 0 rfl rfl e
    cases d with
    | list ds =>
      obtain ⟨b, xs, rfl, h1, r1⟩ := hd.lst x.ok.sub
      exact ⟨b, xs, rfl, .inl ⟨by rw [← hK]; exact h1, fun p hp => want_new w x (.lst x.ok.sub hp r1.reverse)⟩⟩
    | tuple ds =>
      obtain ⟨b, xs, rfl, h1, r1⟩ := hd.tup x.ok.sub
      exact ⟨b, xs, rfl, .inr ⟨by rw [← hK]; exact h1, fun p hp => want_new w x (.tup x.ok.sub hp r1.reverse)⟩⟩
    | _ => exact w.elim
/-- str(i) -/
theorem c_str : CallR X (.type "str") (rAny X.K (bltD .str)) := any1 (fun F H v d z Q ex hd hf q pins s σ us I r => by
  cases d with
  | int i =>
    obtain ⟨c, rfl⟩ := if_some (show (if decide (i.natAbs.log2 < 1920) = true then some (Sv.dat (.str (toString i))) else none) = some z from hf)
    rw [hd.int] at r
    exact call_str_int pins s σ H _ us Q I r ⟨i, rfl, of_decide_eq_true c, str_new ex q⟩
  | _ => cases hf) rfl fun d e r => by cases d <;> rfl
/-- x.upper() -/
theorem e_upper {a : Expr} {ia : IE} {apos pos : Pos} (ha : ∀ ρ, PE X a (rdE g ρ (evE p Φ ia ρ))) (hb : attributeBase a "upper" X.env (eval a X.env) = eval a X.env) (hl : (apos.endLine == pos.line) = true) (ρ : Env) :
    PE X (.Call (.Attribute a "upper" apos) [] [] pos) (rdE g ρ (evE p Φ (.meth .upper ia) ρ)) := by
  unfold evE
  refine pe1 (t := fun ta => tM0 _ ta) (fun ta h => pe_m0 PySem.F.slot_str_upper PySem.F.type_str_upper mt_upper h hb hl) ha (fun ρ σ H Q ta k => k _ fun F r ρ1 v F1 H1 i x w => ?_) ρ
  cases e : r.data ρ1 with
  | none =>
    rw [e] at w
    exact w.elim
  | some d =>
    rw [e] at w
    have hd := x.data1 0 rfl rfl e
    cases d with
    | str t =>
      have w : wantE g ρ σ F H (svR ρ1 (if decide (t.length ≤ 1000000) = true then some (Sv.dat (.str (Txt.upper t))) else none)) Q := w
      split at w
      · rename_i c
        have c := of_decide_eq_true c
        exact ⟨⟨t, hd.str⟩, t, hd.str, rfl, by omega, want_dat w x (.str _)⟩
      · exact w.elim
    | _ => exact w.elim
/-- a constant of the module -/
theorem e_glbT {x : Str} {d : PyData} {pos : Pos} (hg : Gl X x) (h : ∃ (u : Value) (v : V), X.mg x = some u ∧ RelV v u ∧ ∀ F, Rp g.K F v d) (hd : (x == ("__debug__" : Str)) = false) (ρ : Env) : PE X (.Name x pos) (rdE g ρ (evE p Φ (.glb x d) ρ)) := by
  obtain ⟨u, v, hm, r, q⟩ := h
  exact e_glb (pe_glob hg hm r hd) q ρ
end Mini
/-! Mini, part Vb: what an except clause notes is kept behind the statement. -/
namespace L2
open PySem PySem.Spec PyProof.Rows
variable {X : Cx} {pins : List (Addr × Obj)} {σ : List (Option V)} {H H' : Hp} {s : Shared} {h' : Heap}
theorem Inv.keepE {a : Addr} {q : Addr × Obj} {pn' : List (Addr × Obj)} (I : Inv (X.suite a (q :: (X.pn ++ pins))) pn' σ H s) (ok : X.Ok) : Inv (X.tr (q :: (X.pn ++ pins)) X.xe) [] σ H s :=
  ⟨ok.toTry _ _, I.os, I.bare, I.base, I.loc, I.cell, I.free, I.freeC, fun p hp => I.pin p (List.mem_append_left _ (by rw [List.append_nil] at hp; exact hp)), I.hok, I.len⟩
theorem Inv.ofKeep {q : Addr × Obj} {pn' : List (Addr × Obj)} (I : Inv (X.tr (q :: (X.pn ++ pins)) X.xe) pn' σ H s) (ok : X.Ok) : Inv X pins σ H s :=
  ⟨ok, I.os, I.bare, I.base, I.loc, I.cell, I.free, I.freeC, fun p hp => I.pin p (List.mem_append_left _ (List.mem_cons_of_mem _ hp)), I.hok, I.len⟩
/-- the wish about what the clause takes; behind its suite the rest goes on -/
def wKeep (K : PySem.W.Frag) (c : Value) (i : Nat) (ts : Addr → Value → Option Addr → TS) (tk : Addr → Value → Option Addr → TS) (Wout : WX) (D : Ends) : WX := fun cls d σ H =>
  ∃ b, PySem.W.exmOne K cls c = some b ∧ (b = true → ∀ a, H a = none → ts a cls d { nx := fun σ' H' => tk a cls d D (σ'.set i none) H', rt := fun _ _ => False, bk := fun _ _ => False, ct := fun _ _ => False } (σ.set i (some (.ref a))) H) ∧
    (b = false → Wout cls d σ H)
section
variable {x n : Str} {c : Value} {i : Nat} {body suite rest : List Stmt} {b₀ : Stmt} {np pos pos' : Pos} {tb : WX → TS} {ts tk : Addr → Value → Option Addr → TS} {t0 : TS} {Wout : WX}
theorem pss_try_keep (hs : X.stack = X.env :: X.outer) (hf : X.env.frame = some X.env.locals) (hN : X.N.Nodup) (hi : X.N[i]? = some n) (hln : X.env.kindOf n = some .local) (hc : Names X x c) (tkw : Takes X Wout)
    (hb : ∀ (W : WX) (pn : List (Addr × Obj)) (xe : Value → Shared → Prop), Takes (X.tr pn xe) W → PassesOwn (model X.prog X.w) X.A X.env xe → PSs (X.tr pn xe) body (tb W))
    (hsu : ∀ (a : Addr) (oe : Obj) (cls : Value) (d : Option Addr) (pn : List (Addr × Obj)), Zc cls d oe → (∃ vs, oe.data = .fields vs) → PSs (X.suite a ((a, oe) :: pn)) (b₀ :: suite) (ts a cls d))
    (hr : PSs X rest t0)
    (hk : ∀ (a : Addr) (oe : Obj) (cls : Value) (d : Option Addr) (pn : List (Addr × Obj)), Zc cls d oe → (∃ vs, oe.data = .fields vs) → (∀ q ∈ X.pn, q ∈ pn) → PSs (X.tr ((a, oe) :: pn) X.xe) rest (tk a cls d)) :
    PSs X (.Try body [.ExceptHandler (some (.Name x np)) (some n) (b₀ :: suite) pos'] [] [] pos :: rest) (fun D σ H => tb (wKeep X.K c i ts tk Wout D) { D with nx := t0 D } σ H) := by
  refine ⟨fun pins s σ H D I h => ?_⟩
  have ok := I.ok
  have hfr : X.A.frames = some (X.env :: X.outer) := by rw [ok.frames, hs]
  have hloc : Loc X.env.scope n := .inl hln
  refine wpAny_execs_cons ?_
  generalize hP : (fun (f : Flow) (s' : Shared) => match f with | .next => wpAny (model X.prog X.w) X.A (execs rest X.env) (SP X pins D) X.xe s' | f => SP X pins D f s') = P
  refine wpAny_Try_except ?_
  refine wpAny_mono ((hb (wKeep X.K c i ts tk Wout D) (X.pn ++ pins) (fun e s₁ => wpAny (model X.prog X.w) X.A (noteFrame e X.env) (fun _ s₂ => wpAny (model X.prog X.w) X.A (setFlight e none) (fun _ s₃ =>
    wpAny (model X.prog X.w) X.A (handleBy e X.env [.ExceptHandler (some (.Name x np)) (some n) (b₀ :: suite) pos']) P X.xe s₃) X.xe s₂) X.xe s₁) (fun u s' xx => ?_) PassesOwn.looking).run [] s σ H { D with nx := t0 D } (I.toTry _) h) (fun f s1 hsp => ?_) (fun e s1 he => he)
  · -- the catch
    obtain ⟨a, B, sI, pins', σ', H', cls, d, rfl, J', nb, up, sky, na, os, ag, b, hb1, hyes, hno⟩ := xx
    have J : Inv X pins σ' H' sI := J'.ofTry ok
    have sky' : Sky B (X.env :: X.outer) a (Zc cls d) X.env.locals s'.heap := by rw [← hs]; exact sky
    show wpAny (model X.prog X.w) X.A (noteFrame (.ref a) X.env) _ _ _
    refine Sky.land Zc.steady hfr hf sky' fun h3 fl3 up3 => ?_
    have J3 : Inv X pins σ' H' { s' with heap := h3 } := J.landed nb fl3.1 (up.trans up3) os ag
    obtain ⟨oe3, vs3, he3, hz3, hd3⟩ := fl3.there
    have notFr : ∀ {h : Heap} {o : Obj} {vs : Array Value}, h.FunFrames B (X.env :: X.outer) → h.get? a = some o → o.data = .fields vs → a ∉ frs (X.env :: X.outer) := fun {h o vs} ff e dd hm => by
      obtain ⟨_, o', e', hnf⟩ := ff.mem hm
      rw [e] at e'; cases e'
      exact hnf _ dd
    have nfr := notFr fl3.2.2.1 he3 hd3
    have nL : a ≠ X.env.locals := fun z => nfr (List.mem_filterMap.mpr ⟨X.env, List.mem_cons_self, by rw [hf, z]⟩)
    have nF : a ∉ X.fs := fun hm => by
      obtain ⟨e, he, q⟩ := List.mem_filterMap.mp hm
      exact nfr (List.mem_filterMap.mpr ⟨e, List.mem_cons_of_mem _ he, q⟩)
    have S3 := J3.suite he3 hd3 na nL nF
    refine wpAny_handleBy_cons (codeAny_handlers_test ?_) (by intro q; cases q)
    have LT : PySem.W.Looks (model X.prog X.w) h3 (typeOf (.ref a)) cls := fun A Q E s k q => wpAny_typeOf_ref (k _ _ he3) (by rw [hz3.1]; exact q)
    have LM := PySem.W.exm_one (M := model X.prog X.w) (J3.kIn) LT hb1
    have test : ∀ {Q : Value → Shared → Prop} {E : Value → Shared → Prop}, Q c { s' with heap := h3 } → wpAny (model X.prog X.w) (X.A.mark (some (.ref a))) (eval (.Name x np) X.env) Q E { s' with heap := h3 } := fun {Q E} q => by
      obtain ⟨hg, hdbg, hm | ⟨hm, hv, hnn⟩⟩ := hc
      · exact ld_glob (X := X.suite a ((a, oe3) :: (X.pn ++ pins))) S3 hg hm q hdbg
      · exact ld_blt (X := X.suite a ((a, oe3) :: (X.pn ++ pins))) S3 hg hm hv q hnn hdbg
    refine test (LM.here ?_)
    cases b with
    | true =>
      refine codeAny_handlers_suite_as ?_
      refine HandSPX.lands_againZ fl3 fun h4 fl4 up4 => ?_
      have J4 : Inv X pins σ' H' { s' with heap := h4 } := J.landed nb fl4.1 ((up.trans up3).trans up4) os ag
      obtain ⟨oe4, vs4, he4, hz4, hd4⟩ := fl4.there
      have S4 := J4.suite he4 hd4 na nL nF
      refine store_ok (X := X.suite a ((a, oe4) :: (X.pn ++ pins))) (v := .ref a) S4 hN hi hloc rfl (fun s5 S5 => ?_) (.inr hln)
      refine wpAny_mono ((hsu a oe4 cls d (X.pn ++ pins) hz4 ⟨_, hd4⟩).run [] s5 _ H' _ S5 (hyes rfl a na)) (fun f s6 hsp => ?_) (fun _ _ z => False.elim z)
      cases f with
      | next =>
        obtain ⟨σ6, H6, S6, q6⟩ := hsp
        show wpAny (model X.prog X.w) X.A (do bindName X.env n .none; unbindBehindTheSuite X.env n pos') (fun _ s7 => P .next s7) X.xe s6
        refine gone_ok (X := X.tr ((a, oe4) :: (X.pn ++ pins)) X.xe) (S6.keepE ok) hN hi hln fun s7 J7 => ?_
        subst hP
        refine wpAny_mono ((hk a oe4 cls d (X.pn ++ pins) hz4 ⟨_, hd4⟩ fun q hq => List.mem_append_left _ hq).run [] s7 _ H6 D J7 q6) (fun f s8 hsp => ?_) fun _ _ z => z
        cases f with
        | next =>
          obtain ⟨σ8, H8, J8, q8⟩ := hsp
          exact ⟨σ8, H8, J8.ofKeep ok, q8⟩
        | brk =>
          obtain ⟨σ8, H8, J8, q8⟩ := hsp
          exact ⟨σ8, H8, J8.ofKeep ok, q8⟩
        | cont =>
          obtain ⟨σ8, H8, J8, q8⟩ := hsp
          exact ⟨σ8, H8, J8.ofKeep ok, q8⟩
        | ret u =>
          obtain ⟨v8, σ8, H8, J8, r8, q8⟩ := hsp
          exact ⟨v8, σ8, H8, J8.ofKeep ok, r8, q8⟩
      | brk =>
        obtain ⟨σ6, H6, S6, q6⟩ := hsp
        exact q6.elim
      | cont =>
        obtain ⟨σ6, H6, S6, q6⟩ := hsp
        exact q6.elim
      | ret u =>
        obtain ⟨v6, σ6, H6, S6, r6, q6⟩ := hsp
        exact q6.elim
    | false =>
      show wpAny _ X.A (handleBy (.ref a) X.env []) _ _ _
      refine wpAny_handleBy_nil ?_
      obtain ⟨k1, k2, k3, oe, vs, T, oT, ts', he, hz, hd, h1, hr'⟩ := id fl3
      unfold PySem.passOn
      refine wpAny_bind (wpAny_field he hd h1 ?_)
      rw [if_neg (show ¬ ((Value.ref T == Value.none) = true) from by simp)]
      have fin : wpAny (model X.prog X.w) X.A (setFlight (.ref a) X.env.frame) (fun _ s4 => wpAny (model X.prog X.w) X.A (throw (.ref a) : Sem Flow) P X.xe s4) X.xe { s' with heap := h3 } := by
        rw [hf]
        refine HandSPX.setFlight_upZ fl3 fun h4 hh4 up4 => wpAny_throw (tkw _ _ ?_)
        exact ⟨a, B, sI, pins, σ', H', cls, d, rfl, J, nb, (up.trans up3).trans up4, .inr (.inr (by rw [hs]; exact hh4)), na, os, ag, hno rfl⟩
      first
        | exact wpAny_bind (wpAny_pure (wpAny_bind fin))
        | exact wpAny_bind fin
  · subst hP
    cases f with
    | next =>
      obtain ⟨σ', H', J', q⟩ := hsp
      exact wpAny_execs_nil (hr.run pins s1 σ' H' D (J'.ofTry ok) q)
    | brk =>
      obtain ⟨σ', H', J', q⟩ := hsp
      exact ⟨σ', H', J'.ofTry ok, q⟩
    | cont =>
      obtain ⟨σ', H', J', q⟩ := hsp
      exact ⟨σ', H', J'.ofTry ok, q⟩
    | ret u =>
      obtain ⟨v, σ', H', J', r, q⟩ := hsp
      exact ⟨v, σ', H', J'.ofTry ok, r, q⟩
end
end L2
namespace Mini
open PySem L2
variable {g : Gx} {ρ ρ1 ρ2 ρ3 : Env} {σ σ1 σ2 : St} {F H F1 H1 F2 H2 : Hp} {rs qs : List Rv} {vs us : List V} {X : Cx} {p : Pg} {Φ : Orc}
variable {K : PySem.W.Frag} {E E' : EP} {B B' : Nat → Bool} {np : Nat}
/-- behind the statement: what is kept -/
def kpG (g : Gx) (a : Addr) (c : Nat) (d : Option Addr) : Gx := { g with E := fun a' c' fs => a' = a ∧ c' = c ∧ (fs = [] → d = none) }
def kpT (g : Gx) (B : Nat → Bool) (f : Env → SRes) : Addr → Value → Option Addr → TS := fun a cls d D σ H => ∃ c, cls = .ref (g.ca c) ∧ uS (kpG g a c d) B f D σ H
theorem pss_kp {sts : List Stmt} {f : Env → SRes} {a : Addr} {cls : Value} {d : Option Addr} (h : ∀ c, cls = .ref (g.ca c) → ∀ ρ, PSs X sts (rdS (kpG g a c d) B ρ (f ρ))) : PSs X sts (kpT g B f a cls d) :=
  ⟨fun pins s σ H D I ⟨c, e, ρ, q⟩ => (h c e ρ).run pins s σ H D I q⟩
theorem PostS.hush {i : Nat} {so : Option Sv} {v : V} (x : PostS K E B ρ σ F H ρ1 σ1 so v F1 H1) : PostS K E B ρ σ F H (ρ1.set i none) σ1 so v F1 H1 := by
  have go : ∀ (j : Nat ⊕ Unit) z, Sum.elim (getS (ρ1.set i none)) (fun _ : Unit => so) j = some z → Sum.elim (getS ρ1) (fun _ : Unit => so) j = some z := fun j z h => by
    cases j with
    | inr j => exact h
    | inl j =>
      have h : getS (ρ1.set i none) j = some z := h
      rw [getS_clear] at h
      by_cases e : j = i
      · rw [if_pos e] at h
        cases h
      · rw [if_neg e] at h
        exact h
  exact ⟨⟨x.ok.sub, fun j z hz => x.ok.at_ j z (go j z hz), fun a b w ⟨⟨c, a1⟩, a2⟩ ⟨⟨c', b1⟩, b2⟩ => x.ok.inj a b w ⟨⟨c, go a _ a1⟩, a2⟩ ⟨⟨c', go b _ b1⟩, b2⟩⟩, x.stp, fun b ⟨j, ⟨c, h1⟩, h2⟩ => x.lnk b ⟨j, ⟨c, go j _ h1⟩, h2⟩, by rw [List.length_set, x.len], x.lenσ, x.kpt⟩
theorem PostS.kept {i x : Nat} {s : Sv} {v w u : V} {so : Option Sv} {F3 H3 : Hp} {σ3 : St} (hB : B i = true) (hn : ∀ c, s ≠ .own c) (z : PostS K E B ρ σ F H ρ1 σ1 none u F1 H1) (y : PostS K E' B (ρ1.set i (some s)) (σ1.set i (some v)) F1 H1 ρ3 σ3 so w F3 H3) (h : noExc (ρ3.set x none) = true) (hs : ∀ s, so = some s → notExc s = true) :
    PostS K E B ρ σ F H (ρ3.set x none) σ3 so w F3 H3 := by
  have y := (y.hush (i := x)).noE (E' := E) h hs
  have up : ∀ b, Own (getS (ρ1.set i (some s))) (gv (σ1.set i (some v))) b → Own (getS ρ) (gv σ) b ∨ H b = none := fun b hb => z.lnk b (own_sum.mpr (.inl (own_setX hn hb)))
  refine ⟨y.ok, z.stp.trans ⟨y.stp.ex, fun b o h1 h2 => y.stp.keep b o h1 fun q => h2 (own_setX hn q), fun b o h1 h2 => (y.stp.grow b o h1 h2).imp id (own_setX hn)⟩ fun b hb => z.lnk b (own_sum.mpr (.inl hb)), fun b hb => ?_, by rw [y.len, List.length_set, z.len], by rw [y.lenσ, List.length_set, z.lenσ], fun j hj => ?_⟩
  · rcases y.lnk b hb with q | q
    · exact up b q
    · exact z.stp.back q
  · rw [y.kpt j hj, List.getElem?_set_ne (fun q => by rw [q, hj] at hB; cases hB)]
    exact z.kpt j hj
theorem s_tryK {y n : Str} {k i x : Nat} {body suite rest : List Stmt} {b₀ : Stmt} {pp pos pos' : Pos} {ib ihs is : List IS} (hs : X.stack = X.env :: X.outer) (hf : X.env.frame = some X.env.locals) (hN : X.N.Nodup) (hi : X.N[i]? = some n) (hln : X.env.kindOf n = some .local)
    (hc : Names X y (.ref (g.ca k))) (tk : Takes X g.W) (hK : g.K = X.K) (hsub : ∀ c, PySem.W.exmOne X.K (.ref (g.ca c)) (.ref (g.ca k)) = some (p.sub c k)) (hB : B i = true)
    (hb : ∀ (W : WX) (pn : List (Addr × Obj)) (xe : Value → Shared → Prop), Takes (X.tr pn xe) W → PassesOwn (model X.prog X.w) X.A X.env xe → ∀ ρ, PSs (X.tr pn xe) body (rdS { g with W := W } B ρ (evSs p Φ np ib ρ)))
    (hsu : ∀ (a : Addr) (oe : Obj) (c : Nat) (d : Option Addr) (pn : List (Addr × Obj)), Zc (.ref (g.ca c)) d oe → (∃ vs, oe.data = .fields vs) → ∀ ρ, PSs (X.suite a ((a, oe) :: pn)) (b₀ :: suite) (rdS (suG g a c d) B ρ (evSs p Φ np ihs ρ)))
    (hr : ∀ ρ, PSs X rest (rdS g B ρ (evSs p Φ np is ρ)))
    (hk : ∀ (a : Addr) (oe : Obj) (c : Nat) (d : Option Addr) (pn : List (Addr × Obj)), Zc (.ref (g.ca c)) d oe → (∃ vs, oe.data = .fields vs) → (∀ q ∈ X.pn, q ∈ pn) → ∀ ρ, PSs (X.tr ((a, oe) :: pn) X.xe) rest (rdS (kpG g a c d) B ρ (evSs p Φ np is ρ))) (ρ : Env) :
    PSs X (.Try body [.ExceptHandler (some (.Name y pp)) (some n) (b₀ :: suite) pos'] [] [] pos :: rest) (rdS g B ρ (evSs p Φ np [.tryK ib k i x ihs is] ρ)) := by
  refine pss_imp (pss_try_keep (tb := fun W => rdS { g with W := W } B ρ (evSs p Φ np ib ρ)) (ts := suT g B (evSs p Φ np ihs)) (tk := kpT g B (evSs p Φ np is)) (t0 := uS g B (evSs p Φ np is)) hs hf hN hi hln hc tk (fun W pn xe t q => hb W pn xe t q ρ)
    (fun a oe cls d pn z q => pss_su fun c e => by subst e; exact hsu a oe c d pn z q) (pss_u hr) (fun a oe cls d pn z q hp => pss_kp fun c e => by subst e; exact hk a oe c d pn z q hp)) fun D σ H h => ?_
  obtain ⟨F, ii, w⟩ := h
  have w : wantS g B ρ σ F H ((evS p Φ np (.tryK ib k i x ihs is) ρ).seq fun ρ => .nx ρ) D := w
  have seq_nx : ∀ r : SRes, (r.seq fun ρ => SRes.nx ρ) = r := fun r => by cases r <;> rfl
  rw [seq_nx] at w
  unfold evS at w
  refine ⟨F, ii, ?_⟩
  cases ho : evSs p Φ np ib ρ with
  | nx ρ1 =>
    rw [ho] at w
    exact fun σ1 F1 H1 y => ⟨ρ1, F1, ii.postS y, w.back y⟩
  | brk ρ1 =>
    rw [ho] at w
    exact w
  | cnt ρ1 =>
    rw [ho] at w
    exact w
  | ret s ρ1 =>
    rw [ho] at w
    exact w
  | bad =>
    rw [ho] at w
    exact w
  | exc c fs ρ1 =>
    rw [ho] at w
    intro cls d σ1 F1 H1 y z
    obtain ⟨z1, z2⟩ := z
    subst z1
    have w : wantS g B ρ σ F H (if p.sub c k = true then (if noExc ρ1 = true then (match evSs p Φ np ihs (ρ1.set i (some (.exc c fs))) with
      | .nx ρ2 => (evSs p Φ np is (ρ2.set i none)).leave x
      | _ => .bad) else .bad) else .exc c fs ρ1) D := w
    refine ⟨p.sub c k, hsub c, fun hb1 a ha => ?_, fun hb1 => ?_⟩
    · rw [if_pos hb1] at w
      cases hn : noExc ρ1 with
      | false =>
        rw [hn] at w
        exact w.elim
      | true =>
        rw [hn, if_pos rfl] at w
        have hd : fs = [] → d = none := fun e => z2.elim (fun q => q.2) fun q => absurd e q.1
        have i1 : In (suG g a c d) (ρ1.set i (some (.exc c fs))) (σ1.set i (some (.ref a))) F1 H1 :=
          ⟨by rw [List.length_set, List.length_set, y.lenσ, y.len]; exact ii.1, SOk.setX (y.st.noE fun j => noExc_get hn j) (by rw [y.lenσ, y.len]; exact ii.1) ⟨a, rfl, rfl, rfl, hd⟩ fun c q => by cases q⟩
        refine ⟨c, rfl, ρ1.set i (some (.exc c fs)), F1, i1, ?_⟩
        cases ho2 : evSs p Φ np ihs (ρ1.set i (some (.exc c fs))) with
        | nx ρ2 =>
          rw [ho2] at w
          intro σ2 F2 H2 y2
          have w : wantS g B ρ σ F H ((evSs p Φ np is (ρ2.set i none)).leave x) D := w
          have y2 : PostS g.K (kpG g a c d).E B (ρ1.set i (some (.exc c fs))) (σ1.set i (some (.ref a))) F1 H1 ρ2 σ2 none .non F2 H2 := y2
          have y3 := y2.leave hB
          refine ⟨c, rfl, ρ2.set i none, F2, ⟨by rw [y3.lenσ, y3.len]; exact i1.1, y3.st⟩, ?_⟩
          cases ho3 : evSs p Φ np is (ρ2.set i none) with
          | bad =>
            rw [ho3] at w
            exact w.elim
          | exc c' fs' ρ4 =>
            rw [ho3] at w
            exact w.elim
          | nx ρ4 =>
            rw [ho3] at w
            have w : wantS g B ρ σ F H (if noExc (ρ4.set x none) = true then .nx (ρ4.set x none) else .bad) D := w
            split at w
            · rename_i hn2
              exact fun σ4 F4 H4 y4 => w _ F4 H4 (PostS.kept hB (fun c q => by cases q) y (y3.trans y4) hn2 fun s q => by cases q)
            · exact w.elim
          | brk ρ4 =>
            rw [ho3] at w
            have w : wantS g B ρ σ F H (if noExc (ρ4.set x none) = true then .brk (ρ4.set x none) else .bad) D := w
            split at w
            · rename_i hn2
              exact fun σ4 F4 H4 y4 => w _ F4 H4 (PostS.kept hB (fun c q => by cases q) y (y3.trans y4) hn2 fun s q => by cases q)
            · exact w.elim
          | cnt ρ4 =>
            rw [ho3] at w
            have w : wantS g B ρ σ F H (if noExc (ρ4.set x none) = true then .cnt (ρ4.set x none) else .bad) D := w
            split at w
            · rename_i hn2
              exact fun σ4 F4 H4 y4 => w _ F4 H4 (PostS.kept hB (fun c q => by cases q) y (y3.trans y4) hn2 fun s q => by cases q)
            · exact w.elim
          | ret s ρ4 =>
            rw [ho3] at w
            have w : wantS g B ρ σ F H (if (noExc (ρ4.set x none) && notExc s) = true then .ret s (ρ4.set x none) else .bad) D := w
            split at w
            · rename_i hn2
              obtain ⟨h1, h2⟩ := Bool.and_eq_true_iff.mp hn2
              exact fun v σ4 F4 H4 y4 => w v _ F4 H4 (PostS.kept hB (fun c q => by cases q) y (y3.trans y4) h1 fun s' q => by cases q; exact h2)
            · exact w.elim
        | _ =>
          rw [ho2] at w
          exact w.elim
    · rw [hb1, if_neg Bool.false_ne_true] at w
      exact w _ d σ1 F1 H1 y ⟨rfl, z2⟩
/-! ### a def's context, what is kept -/
theorem Tx.kp {lv : Nat} {a : Addr} {oe : Obj} {c : Nat} {d : Option Addr} {pn : List (Addr × Obj)} (T : Tx g X lv) (hp : ∀ q ∈ X.pn, q ∈ pn) : Tx (kpG g a c d) (X.tr ((a, oe) :: pn) X.xe) lv :=
  ⟨T.K, fun u s' ⟨b, B, sI, pins, σ, H, cls, d, e, I, r⟩ => T.tk u s' ⟨b, B, sI, pins, σ, H, cls, d, e, ⟨I.ok.ofTry, I.os, I.bare, I.base, I.loc, I.cell, I.free, I.freeC, fun q hq => I.pin q (by
    rcases List.mem_append.mp hq with h | h
    · exact List.mem_append_left _ (List.mem_cons_of_mem _ (hp q h))
    · exact List.mem_append_right _ h), I.hok, I.len⟩, r⟩, T.ps, T.calm, T.gd, T.rm⟩
/-- isinstance(e, c) of what is kept -/
theorem call_isK {a D : Addr} {oe : Obj} (hm : (a, oe) ∈ X.pn) (C : ExcC X.K D) (hz : Zc (.ref D) none oe) (hf : ∃ vs, oe.data = .fields vs) : CallR X (.builtin "isinstance") (rIsE X.K D a) := by
  intro pins s σ H xs us Q I r h
  obtain ⟨c, cv, b, rfl, hcv, e, q⟩ := h
  cases r with
  | cons rx rr =>
    cases rr with
    | cons rt rr =>
      cases rr
      cases rx
      have ec := hcv _ rt
      subst ec
      obtain ⟨hget, _⟩ := I.pin (a, oe) (List.mem_append.mpr (.inl hm))
      obtain ⟨vs, hv⟩ := hf
      have J : PySem.W.InstAt s.heap a oe D none := by
        obtain ⟨oc, od, oda, osl⟩ := oe
        obtain ⟨h1, h2⟩ := hz
        dsimp only at h1 h2 hv
        subst h1 h2 hv
        exact ⟨hget, rfl, rfl, trivial⟩
      exact PySem.W.kia_one (PySem.W.handS_kitx_exc C.hg C.hk C.hs C.hd C.ha C.hn C.ht C.hm) I.kIn J e (fun z => nomatch z) fun tk => ⟨.bl b, H, I.kept (t' := tk) fun _ _ z => z, rfl, q⟩
theorem e_isxK {a : Addr} {c k : Nat} {d : Option Addr} {oe : Obj} {e : Expr} {ie : IE} {x : Str} {pp p2 pos : Pos} (hm : (a, oe) ∈ X.pn) (hK : g.K = X.K) (C : ExcC X.K (g.ca c)) (hz : Zc (.ref (g.ca c)) d oe) (hf : ∃ vs, oe.data = .fields vs) (hk : PySem.W.kitOne X.K (.ref (g.ca c)) (.ref (g.ca k)) = some (p.sub c k))
    (he0 : ∀ ρ, PE X e (rdE (kpG g a c d) ρ (evE p Φ ie ρ))) (hg : Gl X "isinstance") (hmm : X.mg "isinstance" = none) (hg2 : PE X (.Name x p2) (tC (.ref (g.ca k))))
    (he : starEach (e :: [.Name x p2]) X.env = (false, eval e X.env) :: starEach [.Name x p2] X.env) (he2 : starEach (.Name x p2 :: []) X.env = (false, eval (.Name x p2) X.env) :: starEach [] X.env) (hpl : (backTo pos (starEach [.Name x p2] X.env)).any (·.1) = false) (ρ : Env) :
    PE X (.Call (.Name "isinstance" pp) [e, .Name x p2] [] pos) (rdE (kpG g a c d) ρ (evE p Φ (.isx ie k) ρ)) := by
  cases d with
  | some d =>
    refine pe_imp (pe_callB (X := X) (id := "isinstance") (r := fun _ _ _ => False) (fun _ _ _ _ _ _ _ _ _ h => h.elim) hg hmm (by decide +kernel) (pa_cons (he0 ρ) (pa_cons hg2 pa_nil he2) he) (by decide) (by decide) he hpl) fun σ H Q h => ?_
    unfold evE at h
    refine rd1 h fun F r ρ1 v F1 H1 i y w => ?_
    cases r with
    | slot j => exact w.elim
    | val s => cases s with
      | dat q => exact w.elim
      | own q => exact w.elim
      | glt q => exact w.elim
      | exc c' fs => cases fs with
        | cons q r => exact w.elim
        | nil =>
          obtain ⟨u, hu, q⟩ := y.ok.at_ (.inr 0) _ rfl
          obtain ⟨a', _, q⟩ := q
          cases q.2.2 rfl
  | none =>
    refine pe_imp (pe_callB (X := X) (id := "isinstance") (call_isK hm C hz hf) hg hmm (by decide +kernel) (pa_cons (he0 ρ) (pa_cons hg2 pa_nil he2) he) (by decide) (by decide) he hpl) fun σ H Q h => ?_
    unfold evE at h
    refine rd1 h fun F r ρ1 v F1 H1 i y w => ?_
    cases r with
    | slot j => exact w.elim
    | val s => cases s with
      | dat q => exact w.elim
      | own q => exact w.elim
      | glt q => exact w.elim
      | exc c' fs => cases fs with
        | cons q r => exact w.elim
        | nil =>
          obtain ⟨u, hu, q⟩ := y.ok.at_ (.inr 0) _ rfl
          have hu : some v = some u := hu
          cases hu
          obtain ⟨a', rfl, rfl, rfl, _⟩ := q
          exact ⟨V.ref (g.ca k), Value.ref (g.ca k), p.sub c' k, rfl, fun u (hu : RelV (V.ref (g.ca k)) u) => by cases hu; rfl, hk, want_dat w y (.bl _)⟩
/-- isinstance(e, c) where nothing is kept: nothing is said -/
theorem e_isx0 {k : Nat} {e : Expr} {ie : IE} {x : Str} {pp p2 pos : Pos} (hE : ∀ a c fs, ¬ g.E a c fs)
    (he0 : ∀ ρ, PE X e (rdE g ρ (evE p Φ ie ρ))) (hg : Gl X "isinstance") (hmm : X.mg "isinstance" = none) (hg2 : PE X (.Name x p2) (tC (.ref (g.ca k))))
    (he : starEach (e :: [.Name x p2]) X.env = (false, eval e X.env) :: starEach [.Name x p2] X.env) (he2 : starEach (.Name x p2 :: []) X.env = (false, eval (.Name x p2) X.env) :: starEach [] X.env) (hpl : (backTo pos (starEach [.Name x p2] X.env)).any (·.1) = false) (ρ : Env) :
    PE X (.Call (.Name "isinstance" pp) [e, .Name x p2] [] pos) (rdE g ρ (evE p Φ (.isx ie k) ρ)) := by
  refine pe_imp (pe_callB (X := X) (id := "isinstance") (r := fun _ _ _ => False) (fun _ _ _ _ _ _ _ _ _ h => h.elim) hg hmm (by decide +kernel) (pa_cons (he0 ρ) (pa_cons hg2 pa_nil he2) he) (by decide) (by decide) he hpl) fun σ H Q h => ?_
  unfold evE at h
  refine rd1 h fun F r ρ1 v F1 H1 i y w => ?_
  cases r with
  | slot j => exact w.elim
  | val s => cases s with
    | dat q => exact w.elim
    | own q => exact w.elim
    | glt q => exact w.elim
    | exc c' fs =>
      obtain ⟨u, hu, q⟩ := y.ok.at_ (.inr 0) _ rfl
      obtain ⟨a', _, q⟩ := q
      exact absurd q (hE _ _ _)
/-! ### tuples of the module, known to have no dict -/
/-- t.index(y), texts -/
def rIndexT (K : PySem.W.Frag) : V → List V → Hp → VK → Prop := fun x xs H Q => ∃ (a : Addr) (ys : List Str) (k : Str), x = V.ref a ∧ xs = [.str k] ∧ SqT K H a (ys.map V.str) ∧ k ∈ ys ∧ Q (.int (ys.idxOf k : Nat)) H
theorem mt_indexT : MtR X "tuple.index" (rIndexT X.K) := by
  intro pins s σ H x xs v us Q I rx rxs h
  obtain ⟨a, ys, k, rfl, rfl, hs, hk, q⟩ := h
  cases rx
  cases rxs with
  | cons ry rt =>
    cases rt
    obtain ⟨t, rfl⟩ := ry
    obtain ⟨its, rv, ht, _⟩ := I.tuple hs
    exact PySem.SeqAt.tuple_index_strs ht (strs_of_vals rv) hk ⟨.int _, H, I.kept (h' := s.heap) (t' := s.toks + 1) (fun _ _ z => z), ⟨_, rfl⟩, q⟩
theorem e_gt {x : Str} {ds : List PyData} {pos : Pos} (hg : Gl X x) (h : ∃ a : Addr, X.mg x = some (.ref a) ∧ ∀ E F H, SvAt g.K E F H (.ref a) (.glt ds)) (hd : (x == ("__debug__" : Str)) = false) (ρ : Env) : PE X (.Name x pos) (rdE g ρ (evE p Φ (.gt x ds) ρ)) := by
  obtain ⟨a, hm, q⟩ := h
  refine pe_imp (pe_glob (v := .ref a) hg hm rfl hd) fun σ H Q h => ?_
  obtain ⟨F, i, w⟩ := h
  unfold evE at w
  exact w _ F H ((PostL.refl i.2).held (fun c z => by cases z) (q _ _ _))
theorem strsD_vals : ∀ {ds : List PyData} {ys : List Str} {xs : List V}, strsD ds = some ys → (∀ F, RpAll K F xs ds) → xs = ys.map V.str
  | [], ys, xs, h, r => by
    cases h
    cases r fun _ => none
    rfl
  | d :: ds, ys, xs, h, r => by
    cases d with
    | str x =>
      obtain ⟨q, hq, rfl⟩ := Option.map_eq_some_iff.mp (show (strsD ds).map (fun q => x :: q) = some ys from h)
      cases xs with
      | nil => cases r fun _ => none
      | cons v vs =>
        have e := strsD_vals (xs := vs) hq fun F => by
          cases r F with
          | cons _ r => exact r
        cases r fun _ => none with
        | cons r1 _ =>
          cases r1
          rw [e]
          rfl
    | _ => cases h
theorem indexS_some : ∀ {ys : List Str} {x : Str} {j : Nat}, indexS x ys = some j → x ∈ ys ∧ ys.idxOf x = j
  | [], x, j, h => by cases h
  | y :: ys, x, j, h => by
    have h : (if y = x then some 0 else (indexS x ys).map (· + 1)) = some j := h
    by_cases e : y = x
    · rw [if_pos e] at h
      cases h
      subst e
      exact ⟨List.mem_cons_self, by rw [List.idxOf_cons_self]⟩
    · rw [if_neg e] at h
      obtain ⟨k, hk, rfl⟩ := Option.map_eq_some_iff.mp h
      obtain ⟨h1, h2⟩ := indexS_some hk
      exact ⟨List.mem_cons_of_mem _ h1, by rw [List.idxOf_cons, show (y == x) = false from beq_false_of_ne e, h2]; rfl⟩
theorem e_indexG {a b : Expr} {ia ib : IE} {apos cpos : Pos} (hK : g.K = X.K) (ha : ∀ ρ, PE X a (rdE g ρ (evE p Φ ia ρ))) (hb : ∀ ρ, PE X b (rdE g ρ (evE p Φ ib ρ)))
    (hs1 : starEach (b :: []) X.env = (false, eval b X.env) :: starEach [] X.env) (hbase : attributeBase a "index" X.env (eval a X.env) = eval a X.env)
    (hfew : ((backTo cpos (starEach [b] X.env)).all (fun x => !x.1) && (backToKw cpos (keywordEach [] X.env)).all (fun x => x.1.isSome) && decide (([b] : List Expr).length + ([] : List Keyword).length + (if ([] : List Keyword).isEmpty then 0 else 1) < 30)) = true)
    (hline : (apos.endLine == cpos.line) = true) (hplain : (backTo cpos (starEach [] X.env)).any (·.1) = false) (ρ : Env) :
    PE X (.Call (.Attribute a "index" apos) [b] [] cpos) (rdE g ρ (evE p Φ (.indexG ia ib) ρ)) := by
  have go : ∀ ρ', (∀ r ρ1, evE p Φ ia ρ = .ok r ρ1 → ρ' = ρ1) → PE X (.Call (.Attribute a "index" apos) [b] [] cpos) (rdE g ρ (evE p Φ (.indexG ia ib) ρ)) := fun ρ' hρ => by
    refine pe_imp (pe_bm PySem.F.plainAttrs_tuple PySem.F.slot_tuple_index PySem.F.type_tuple_index mt_indexT (ha ρ) (pa_cons (hb ρ') pa_nil hs1) hbase hfew hline hs1 hplain) fun σ H Q h => ?_
    obtain ⟨F, i, w⟩ := h
    unfold evE at w
    refine ⟨F, i, ?_⟩
    cases ho : evE p Φ ia ρ with
    | bad =>
      rw [ho] at w
      exact w
    | exc c fs ρ1 =>
      rw [ho] at w
      exact w
    | ok r ρ1 =>
      rw [ho] at w
      have e := hρ r ρ1 ho
      subst e
      refine fun v F1 H1 x => ?_
      cases r with
      | slot j => exact w.elim
      | val s => cases s with
        | dat d => exact w.elim
        | own c => exact w.elim
        | exc c fs => exact w.elim
        | glt ds =>
          obtain ⟨u, hu, q⟩ := x.ok.at_ (.inr 0) _ rfl
          have hu : some v = some u := hu
          cases hu
          obtain ⟨a0, xs, rfl, hdn, hcon, hcl, hr⟩ := q
          refine ⟨.inr (.inl ⟨rfl, by rw [← hK]; exact hdn⟩), F1, i.post x, ?_⟩
          have w : wantE g ρ σ F H ((evE p Φ ib ρ').bind fun rb ρ => datR ρ ((rb.data ρ).bind fun y => indexT ds y)) Q := w
          cases hob : evE p Φ ib ρ' with
          | bad =>
            rw [hob] at w
            exact w.elim
          | exc c fs ρ2 =>
            rw [hob] at w
            exact excOk.back w x
          | ok rb ρ2 =>
            rw [hob] at w
            refine fun u F2 H2 y => ?_
            have xy : PostL g.K g.E ρ σ F H ρ2 [.val (.glt ds), rb] [.ref a0, u] F2 H2 := x.seq y
            have w : wantE g ρ σ F H (datR ρ2 ((rb.data ρ2).bind fun y => indexT ds y)) Q := w
            cases hz : ((rb.data ρ2).bind fun y => indexT ds y) with
            | none =>
              rw [hz] at w
              exact w.elim
            | some z =>
              rw [hz] at w
              obtain ⟨dy, e2, hz⟩ := Option.bind_eq_some_iff.mp hz
              cases dy with
              | str k =>
                obtain ⟨ys, hy, hz⟩ := Option.bind_eq_some_iff.mp (show ((strsD ds).bind fun xs => (indexS k xs).map fun (j : Nat) => PyData.int (j : Int)) = some z from hz)
                obtain ⟨j, hj, rfl⟩ := Option.map_eq_some_iff.mp hz
                obtain ⟨h1, h2⟩ := indexS_some hj
                have e3 := strsD_vals hy hr
                have du := (xy.data1 1 rfl rfl e2).str
                subst du
                subst e3
                refine ⟨a0, ys, k, rfl, rfl, ?_, h1, ?_⟩
                · rw [← hK]
                  exact .inr hcon
                · rw [h2]
                  exact want_dat w xy (.int _)
              | _ => cases hz
  cases ho : evE p Φ ia ρ with
  | ok r ρ1 => exact go ρ1 fun r' ρ2 e => by rw [ho] at e; cases e; rfl
  | exc c fs ρ1 => exact go ρ fun r' ρ2 e => by rw [ho] at e; cases e
  | bad => exact go ρ fun r' ρ2 e => by rw [ho] at e; cases e
/-- name = [..] on one line -/
theorem s_setLc {np i : Nat} {y : Str} {py spos : Pos} {elt tg iter : Expr} {ifs : List Expr} {scope : Scope} {own : List (Str × Nat)} {pos : Pos} {v : Tgt} {it : II} {cs : List IE} {e : IE} (hy : X.N[i]? = some y) (hyl : X.env.scope.names.lookup y = some .local) (hB : B i = true)
    (hk : X.env.scope.kind = .function) (hl : (py.line == pos.line) = true) (ha : (scope.names.any fun (n, k) => n == y && (k == .local || k == .cell)) = false)
    (hK : g.K = X.K) (hc : X.calm = true) (hN : X.N.Nodup) (ok : BlkOk X.N X.env.scope scope own) (hS : ∀ i ∈ namesT v, i ∈ own.map (·.2))
    (hi : ∀ ρ, PI X tg iter (rdI g ρ (evI p Φ it ρ)))
    (hg : ∀ (s : Shared) (H : Hp) (C : Addr) (cl : List (Str × Addr)) (fp : List Addr), PG (X.blk s H scope (compEnvC scope cl C X.env) fp) tg (tgR g.K v))
    (ht : ∀ (s : Shared) (H : Hp) (C : Addr) (cl : List (Str × Addr)) (fp : List Addr), PTs (X.blk s H scope (compEnvC scope cl C X.env) fp) ifs (uC g.no p Φ cs))
    (he : ∀ (s : Shared) (H : Hp) (C : Addr) (cl : List (Str × Addr)) (fp : List Addr), PE (X.blk s H scope (compEnvC scope cl C X.env) fp) elt (uE g.no p Φ e))
    (hs : ∀ x, foldedSetIterable iter X.env x = pure x) (ρ : Env) :
    PS X (.Assign [.Name y py] (.ListComp elt [⟨tg, iter, ifs, 0⟩] scope pos) spos) (rdS g B ρ (evS p Φ np (.asg (.name i) (.lc v (own.map (·.2)) it cs e)) ρ)) := by
  refine ps_imp (ps_setLc hc hN hy hyl (sw_true hk hyl hl ha) (hi ρ) ok hg ht he hs) fun D σ H h => ?_
  show tLc _ _ _ _ _ σ H fun x H1 => gName i x σ H1 D.nx
  refine lc_read hS ?_
  unfold evS at h
  refine rs1 h fun F r ρ1 v F1 H1 ii x w => ?_
  have w : wantS g B ρ σ F H (nxO (setV ρ1 i r)) D := w
  unfold setV at w
  cases e : lend1 ρ1 r false with
  | none =>
    rw [e] at w
    exact w.elim
  | some q =>
    obtain ⟨s, ρ2, l⟩ := q
    rw [e] at w
    obtain ⟨F2, y⟩ := lend1_s (B := B) x e
    exact w _ F2 H1 (y.set (by rw [y.len]; exact ii.1) hB)
end Mini
/-! Mini, part W: plain laws of the evaluator. -/
namespace Mini
open PySem L2
variable {p : Pg} {Φ : Orc} {ρ ρ1 ρ2 : Env} {a b c k e : IE} {x y z d kd : PyData} {i j n np : Nat}

abbrev V1 (p : Pg) (Φ : Orc) (e : IE) (ρ : Env) (d : PyData) : Prop := evE p Φ e ρ = .ok (.val (.dat d)) ρ
def VA (p : Pg) (Φ : Orc) (es : List IE) (ρ : Env) (ds : List PyData) : Prop := evEs p Φ es ρ = .ok (ds.map fun d => .val (.dat d)) ρ
theorem x_var (h : getS ρ i = some (.dat d)) : V1 p Φ (.var i) ρ d := by
  show (match getS ρ i with
    | some (.dat d) => Res.ok (Rv.val (.dat d)) ρ
    | some (.own _) => .ok (.slot i) ρ
    | some (.exc c fs) => .ok (.val (.exc c fs)) ρ
    | some (.glt ds) => .ok (.val (.glt ds)) ρ
    | none => .bad) = _
  rw [h]
theorem x_lit : V1 p Φ (.lit d) ρ d := rfl
theorem x_bin {op : BOp} (ha : V1 p Φ a ρ x) (hb : V1 p Φ b ρ y) (h : binD op x y = some (.dat z)) : V1 p Φ (.bin op a b) ρ z := by
  show (evE p Φ a ρ).bind _ = _
  rw [ha]
  show (evE p Φ b ρ).bind _ = _
  rw [hb]
  show svR ρ (binD op x y) = _
  rw [h]
  rfl
theorem x_add {s t : Int} (ha : V1 p Φ a ρ (.int s)) (hb : V1 p Φ b ρ (.int t)) : V1 p Φ (.bin .add a b) ρ (.int (s + t)) := x_bin ha hb rfl
theorem x_sub {s t : Int} (ha : V1 p Φ a ρ (.int s)) (hb : V1 p Φ b ρ (.int t)) : V1 p Φ (.bin .sub a b) ρ (.int (s - t)) := x_bin ha hb rfl
theorem x_mul {s t : Int} (ha : V1 p Φ a ρ (.int s)) (hb : V1 p Φ b ρ (.int t)) (h : mulOk s t = true) : V1 p Φ (.bin .mul a b) ρ (.int (s * t)) := x_bin ha hb (if_pos h)
theorem x_fdiv {s t : Int} (ha : V1 p Φ a ρ (.int s)) (hb : V1 p Φ b ρ (.int t)) (h : divOk t = true) : V1 p Φ (.bin .fdiv a b) ρ (.int (s.fdiv t)) := x_bin ha hb (if_pos h)
theorem x_mod {s t : Int} (ha : V1 p Φ a ρ (.int s)) (hb : V1 p Φ b ρ (.int t)) (h : t ≠ 0) : V1 p Φ (.bin .mod a b) ρ (.int (s.fmod t)) := x_bin ha hb (by
  show (if decide (t = 0) = true then none else some (Sv.dat (.int (s.fmod t)))) = _
  rw [if_neg (by simpa using h)])
theorem x_cmp {op : COp} {t : Bool} (ha : V1 p Φ a ρ x) (hb : V1 p Φ b ρ y) (h : cmpD op x y = some t) : V1 p Φ (.cmp op a b) ρ (.bool t) := by
  show (evE p Φ a ρ).bind _ = _
  rw [ha]
  show (evE p Φ b ρ).bind _ = _
  rw [hb]
  show boolR ρ (cmpD op x y) = _
  rw [h]
  rfl
theorem x_andF (ha : V1 p Φ a ρ x) (h : truD x = some false) : V1 p Φ (.and a b) ρ x := by
  show (evE p Φ a ρ).bind _ = _
  rw [ha]
  show (match truD x with
    | some true => evE p Φ b ρ
    | some false => Res.ok (Rv.val (.dat x)) ρ
    | none => .bad) = _
  rw [h]
theorem x_andT (ha : V1 p Φ a ρ x) (h : truD x = some true) : evE p Φ (.and a b) ρ = evE p Φ b ρ := by
  show (evE p Φ a ρ).bind _ = _
  rw [ha]
  show (match truD x with
    | some true => evE p Φ b ρ
    | some false => Res.ok (Rv.val (.dat x)) ρ
    | none => .bad) = _
  rw [h]
theorem x_orF (ha : V1 p Φ a ρ x) (h : truD x = some false) : evE p Φ (.or a b) ρ = evE p Φ b ρ := by
  show (evE p Φ a ρ).bind _ = _
  rw [ha]
  show (match truD x with
    | some true => Res.ok (Rv.val (.dat x)) ρ
    | some false => evE p Φ b ρ
    | none => .bad) = _
  rw [h]
theorem x_not {t : Bool} (ha : V1 p Φ a ρ x) (h : truD x = some t) : V1 p Φ (.not a) ρ (.bool !t) := by
  show (evE p Φ a ρ).bind _ = _
  rw [ha]
  show boolR ρ ((truD x).map fun b => !b) = _
  rw [h]
  rfl
theorem va_nil : VA p Φ [] ρ [] := evEs_nil
theorem va_cons {es : List IE} {ds : List PyData} (ha : V1 p Φ a ρ d) (hr : VA p Φ es ρ ds) : VA p Φ (a :: es) ρ (d :: ds) := by
  unfold VA
  rw [evEs_cons, ha]
  show (evEs p Φ es ρ).bind _ = _
  rw [hr]
  rfl
theorem frzAll_dat : ∀ (ds : List PyData), frzAll ρ (ds.map fun d => .val (.dat d)) = some (ds, ρ)
  | [] => rfl
  | d :: ds => by
    show ((some (d, ρ) : Option (PyData × Env)).bind fun p => (frzAll p.2 (ds.map fun d => .val (.dat d))).map fun q => (p.1 :: q.1, q.2)) = _
    show ((frzAll ρ (ds.map fun d => .val (.dat d))).map fun q => (d :: q.1, q.2)) = _
    rw [frzAll_dat ds]
    rfl
theorem dataAll_dat : ∀ (ds : List PyData), dataAll ρ (ds.map fun d => .val (.dat d)) = some ds
  | [] => rfl
  | d :: ds => by
    show ((dataAll ρ (ds.map fun d => .val (.dat d))).map fun q => d :: q) = _
    rw [dataAll_dat ds]
    rfl
theorem lend_dat : ∀ (ds : List PyData) (kp : List Bool), lend ρ (ds.map fun d => .val (.dat d)) kp = some (ds.map Sv.dat, ρ, ds.map fun _ => none)
  | [], _ => rfl
  | d :: ds, kp => by
    show (match lend ρ (ds.map fun d => .val (.dat d)) kp.tail with
      | none => none
      | some (ss, ρ2, ls) => some (Sv.dat d :: ss, ρ2, none :: ls)) = _
    rw [lend_dat ds]
    rfl
theorem x_tup {es : List IE} {ds : List PyData} (h : VA p Φ es ρ ds) (hf : fitN ds.length = true) : V1 p Φ (.tup es) ρ (.tuple ds) := by
  show (evEs p Φ es ρ).bind _ = _
  rw [h]
  show (match frzAll ρ (ds.map fun d => .val (.dat d)) with
    | some (ds, ρ) => if fitN ds.length then Res.ok (Rv.val (.dat (.tuple ds))) ρ else .bad
    | none => .bad) = _
  rw [frzAll_dat]
  exact if_pos hf
theorem x_lst {es : List IE} {ds : List PyData} (h : VA p Φ es ρ ds) (hf : fitN ds.length = true) : evE p Φ (.lst es) ρ = .ok (.val (.own (.lst ds))) ρ := by
  show (evEs p Φ es ρ).bind _ = _
  rw [h]
  show (match frzAll ρ (ds.map fun d => .val (.dat d)) with
    | some (ds, ρ) => if fitN ds.length then Res.ok (Rv.val (.own (.lst ds))) ρ else .bad
    | none => .bad) = _
  rw [frzAll_dat]
  exact if_pos hf
theorem x_blt {f : Blt} {es : List IE} {ds : List PyData} {s : Sv} (h : VA p Φ es ρ ds) (hz : bltD f ds = some s) : evE p Φ (.blt f es) ρ = .ok (.val s) ρ := by
  show (evEs p Φ es ρ).bind _ = _
  rw [h]
  show svR ρ ((dataAll ρ (ds.map fun d => .val (.dat d))).bind (bltD f)) = _
  rw [dataAll_dat]
  show svR ρ (bltD f ds) = _
  rw [hz]
  rfl
theorem x_ixT {kvs : List (PyData × PyData)} {t : Bool} (h : getS ρ i = some (.own (.dic t kvs))) (hk : V1 p Φ k ρ kd) (hkey : isKey kd = true) (hl : lookD kvs kd = some d) : V1 p Φ (.ix (.var i) k) ρ d := by
  show (evE p Φ (.var i) ρ).bind _ = _
  have e : evE p Φ (.var i) ρ = .ok (.slot i) ρ := by
    show (match getS ρ i with
      | some (.dat d) => Res.ok (Rv.val (.dat d)) ρ
      | some (.own _) => .ok (.slot i) ρ
      | some (.exc c fs) => .ok (.val (.exc c fs)) ρ
      | some (.glt ds) => .ok (.val (.glt ds)) ρ
      | none => .bad) = _
    rw [h]
  rw [e]
  show (evE p Φ k ρ).bind _ = _
  rw [hk]
  show datR ρ (((getS ρ i).bind Sv.data).bind fun x => ixD x kd) = _
  rw [h]
  show datR ρ (if isKey kd = true then lookD kvs kd else none) = _
  rw [if_pos hkey, hl]
  rfl
theorem x_ix (ha : V1 p Φ a ρ x) (hb : V1 p Φ b ρ y) (h : ixD x y = some z) : V1 p Φ (.ix a b) ρ z := by
  show (evE p Φ a ρ).bind _ = _
  rw [ha]
  show (evE p Φ b ρ).bind _ = _
  rw [hb]
  show datR ρ (ixD x y) = _
  rw [h]
  rfl
/-- an own list's item -/
theorem x_ixL {ds : List PyData} {t : Int} (h : getS ρ i = some (.own (.lst ds))) (hk : V1 p Φ k ρ (.int t)) (hl : L2.atI ds t = some d) : V1 p Φ (.ix (.var i) k) ρ d := by
  show (evE p Φ (.var i) ρ).bind _ = _
  have e : evE p Φ (.var i) ρ = .ok (.slot i) ρ := by
    show (match getS ρ i with
      | some (.dat d) => Res.ok (Rv.val (.dat d)) ρ
      | some (.own _) => .ok (.slot i) ρ
      | some (.exc c fs) => .ok (.val (.exc c fs)) ρ
      | some (.glt ds) => .ok (.val (.glt ds)) ρ
      | none => .bad) = _
    rw [h]
  rw [e]
  show (evE p Φ k ρ).bind _ = _
  rw [hk]
  show datR ρ (((getS ρ i).bind Sv.data).bind fun x => ixD x (.int t)) = _
  rw [h]
  show datR ρ (L2.atI ds t) = _
  rw [hl]
  rfl
/-! ### statements -/
theorem n_cons {s : IS} {ss : List IS} (h : evS p Φ np s ρ = .nx ρ1) : evSs p Φ np (s :: ss) ρ = evSs p Φ np ss ρ1 := by
  show (evS p Φ np s ρ).seq _ = _
  rw [h]
  rfl
theorem n_ret {s : IS} {ss : List IS} {v : Sv} (h : evS p Φ np s ρ = .ret v ρ1) : evSs p Φ np (s :: ss) ρ = .ret v ρ1 := by
  show (evS p Φ np s ρ).seq _ = _
  rw [h]
  rfl
theorem n_exc {s : IS} {ss : List IS} {cl : Nat} {fs : List (Str × PyData)} (h : evS p Φ np s ρ = .exc cl fs ρ1) : evSs p Φ np (s :: ss) ρ = .exc cl fs ρ1 := by
  show (evS p Φ np s ρ).seq _ = _
  rw [h]
  rfl
theorem s_asg' (h : V1 p Φ e ρ d) : evS p Φ np (.asg (.name i) e) ρ = .nx (ρ.set i (some (.dat d))) := by
  show (evE p Φ e ρ).st _ = _
  rw [h]
  rfl
theorem s_aug' {s t : Int} (hi : getS ρ i = some (.dat (.int s))) (h : V1 p Φ e ρ (.int t)) : evS p Φ np (.aug i .add e) ρ = .nx (ρ.set i (some (.dat (.int (s + t))))) := by
  show (match getS ρ i with
    | some (.dat x) => (evE p Φ e ρ).st fun r ρ => nxO ((r.data ρ).bind fun y => (augV .add x y).map fun d => ρ.set i (some (.dat d)))
    | _ => .bad) = _
  rw [hi]
  show (evE p Φ e ρ).st _ = _
  rw [h]
  rfl
theorem s_ret' (h : V1 p Φ e ρ d) : evS p Φ np (.ret e) ρ = .ret (.dat d) ρ := by
  show (evE p Φ e ρ).st _ = _
  rw [h]
  rfl
theorem s_par' {is : List Nat} {es : List IE} {ds : List PyData} (h : VA p Φ es ρ ds) (nd : (decide is.Nodup && decide (is.length = ds.length)) = true) : evS p Φ np (.par is es) ρ = .nx (setMany ρ is (ds.map Sv.dat)) := by
  show (evEs p Φ es ρ).st _ = _
  rw [h]
  show nxO ((lend ρ (ds.map fun d => .val (.dat d)) []).bind _) = _
  rw [lend_dat]
  show nxO (if (decide is.Nodup && decide (is.length = (ds.map Sv.dat).length)) = true then some (setMany ρ is (ds.map Sv.dat)) else none) = _
  rw [List.length_map, if_pos nd]
  rfl
theorem putAt_dic {kvs : List (PyData × PyData)} (ht : getS ρ i = some (.own (.dic true kvs))) (h1 : isKey kd = true) (h2 : isTup kd = true) (h3 : fitN kvs.length = true) : putAt ρ i kd d = some (ρ.set i (some (.own (.dic true (putD kvs kd d))))) := by
  unfold putAt
  rw [ht]
  show (if (isKey kd && isTup kd == true && fitN kvs.length) = true then _ else none) = _
  rw [h1, h2, h3]
  rfl
theorem s_put {kvs : List (PyData × PyData)} (he : V1 p Φ e ρ d) (ht : getS ρ i = some (.own (.dic true kvs))) (hk : V1 p Φ k ρ kd) (h1 : isKey kd = true) (h2 : isTup kd = true) (h3 : fitN kvs.length = true) :
    evS p Φ np (.setIx i k e) ρ = .nx (ρ.set i (some (.own (.dic true (putD kvs kd d))))) := by
  show (evE p Φ e ρ).st _ = _
  rw [he]
  show setAt p Φ i k d ρ = _
  unfold setAt
  rw [ht]
  show (evE p Φ k ρ).st _ = _
  rw [hk]
  show nxO (putAt ρ i kd d) = _
  rw [putAt_dic ht h1 h2 h3]
  rfl
/-! ### dicts -/
instance decPy : DecidableEq PyData := fun a b => if h : sameD a b = true then isTrue (sameD_eq h) else isFalse fun e => h (by rw [e]; exact sameD_refl b)
theorem same_dec (a b : PyData) : sameD a b = decide (a = b) := by
  by_cases h : a = b
  · subst h
    rw [decide_eq_true rfl]
    exact sameD_refl a
  · rw [decide_eq_false h]
    cases e : sameD a b with
    | false => rfl
    | true => exact absurd (sameD_eq e) h
theorem look_nil : lookD [] kd = none := rfl
theorem look_cons {q : PyData × PyData} {kvs : List (PyData × PyData)} : lookD (q :: kvs) kd = if q.1 = kd then some q.2 else lookD kvs kd := by
  unfold lookD
  rw [List.find?_cons, same_dec]
  by_cases h : q.1 = kd
  · rw [if_pos h, decide_eq_true h]
    rfl
  · rw [if_neg h, decide_eq_false h]
theorem look_map {v k1 : PyData} : ∀ {kvs : List (PyData × PyData)}, lookD (kvs.map fun q => if sameD q.1 k1 = true then (q.1, v) else q) kd = if k1 = kd then (lookD kvs kd).map (fun _ => v) else lookD kvs kd
  | [] => by
    show none = _
    split <;> rfl
  | q :: kvs => by
    rw [List.map_cons, look_cons, look_cons, look_map (kvs := kvs), same_dec]
    by_cases h1 : q.1 = k1
    · rw [decide_eq_true h1, if_pos rfl]
      by_cases h2 : k1 = kd
      · rw [if_pos h2, if_pos h2, if_pos (h1.trans h2), if_pos (h1.trans h2)]
        rfl
      · rw [if_neg h2, if_neg h2, if_neg (fun z => h2 (h1.symm.trans z)), if_neg (fun z => h2 (h1.symm.trans z))]
    · rw [decide_eq_false h1, if_neg Bool.false_ne_true]
      by_cases h2 : k1 = kd
      · rw [if_pos h2, if_pos h2, if_neg (fun z => h1 (z.trans h2.symm)), if_neg (fun z => h1 (z.trans h2.symm))]
      · rw [if_neg h2, if_neg h2]
theorem has_look {kvs : List (PyData × PyData)} : hasD kvs kd = (lookD kvs kd).isSome := by
  induction kvs with
  | nil => rfl
  | cons q kvs ih =>
    unfold hasD at ih ⊢
    rw [List.any_cons, ih, look_cons, same_dec]
    by_cases h : q.1 = kd
    · rw [if_pos h, decide_eq_true h]
      rfl
    · rw [if_neg h, decide_eq_false h]
      rfl
theorem look_app {v : PyData} {k1 : PyData} : ∀ {kvs : List (PyData × PyData)}, lookD (kvs ++ [(k1, v)]) kd = match lookD kvs kd with
    | some z => some z
    | none => if k1 = kd then some v else none
  | [] => by
    rw [List.nil_append, look_cons]
    rfl
  | q :: kvs => by
    rw [List.cons_append, look_cons, look_cons, look_app (kvs := kvs)]
    split <;> rfl
theorem look_put {v : PyData} {k1 : PyData} {kvs : List (PyData × PyData)} : lookD (putD kvs k1 v) kd = if k1 = kd then some v else lookD kvs kd := by
  unfold putD
  rw [has_look]
  cases e : lookD kvs k1 with
  | some z =>
    show lookD (if true = true then _ else _) kd = _
    rw [if_pos rfl, look_map]
    by_cases h : k1 = kd
    · rw [if_pos h, if_pos h, ← h, e]
      rfl
    · rw [if_neg h, if_neg h]
  | none =>
    show lookD (if false = true then _ else _) kd = _
    rw [if_neg Bool.false_ne_true, look_app]
    by_cases h : k1 = kd
    · rw [if_pos h, if_pos h, ← h, e]
    · rw [if_neg h, if_neg h]
      cases lookD kvs kd <;> rfl
theorem put_len {v : PyData} {k1 : PyData} {kvs : List (PyData × PyData)} : (putD kvs k1 v).length ≤ kvs.length + 1 := by
  unfold putD
  split
  · rw [List.length_map]
    omega
  · rw [List.length_append]
    exact Nat.le_refl _
/-! ### loops -/
theorem fold_inv {f : PyData → Env → SRes} {it : Nat → PyData} (Inv : Nat → Env → Prop) : ∀ (n s : Nat) (ρ : Env), Inv s ρ → (∀ i, i < n → ∀ ρ, Inv (s + i) ρ → ∃ ρ', f (it (s + i)) ρ = .nx ρ' ∧ Inv (s + i + 1) ρ') →
    ∃ ρ', foldS (fun _ => true) f ((List.range' s n).map it) ρ = .nx ρ' ∧ Inv (s + n) ρ'
  | 0, s, ρ, h, _ => ⟨ρ, rfl, h⟩
  | n + 1, s, ρ, h, st => by
    obtain ⟨ρ1, h1, h2⟩ := st 0 (by omega) ρ h
    obtain ⟨ρ2, h3, h4⟩ := fold_inv Inv n (s + 1) ρ1 h2 fun i hi ρ hρ => by
      have := st (i + 1) (by omega) ρ (by rw [show s + (i + 1) = s + 1 + i by omega]; exact hρ)
      rw [show s + (i + 1) = s + 1 + i by omega] at this
      exact this
    refine ⟨ρ2, ?_, by rw [show s + (n + 1) = s + 1 + n by omega]; exact h4⟩
    rw [List.range'_succ, List.map_cons]
    show (if true = true then (f (it s) ρ).turn _ else SRes.bad) = _
    rw [if_pos rfl, show f (it s) ρ = .nx ρ1 from h1]
    exact h3
theorem for_list {e : II} {body : List IS} {xs : List PyData} (he : evI p Φ e ρ = .ok (xs, none) ρ) : evS p Φ np (.forr (.name i) e body) ρ = foldS (fun _ => true) (fun x ρ => evSs p Φ np body (ρ.set i (some (.dat x)))) xs ρ := by
  show (evI p Φ e ρ).st _ = _
  rw [he]
  rfl
theorem rng_ev {lo hi : Int} (ha : V1 p Φ a ρ (.int lo)) (hb : V1 p Φ b ρ (.int hi)) (ok : (rngOk lo && rngOk hi) = true) : evI p Φ (.rng [a, b]) ρ = .ok ((List.range (hi - lo).toNat).map (fun (i : Nat) => PyData.int (lo + (i : Int))), none) ρ := by
  show (evEs p Φ [a, b] ρ).bind _ = _
  rw [va_cons ha (va_cons hb va_nil)]
  show (match (dataAll ρ [Rv.val (.dat (.int lo)), .val (.dat (.int hi))]).bind rangeD with
    | some xs => Res.ok (xs, (none : Option Nat)) ρ
    | none => .bad) = _
  show (match (if (rngOk lo && rngOk hi) = true then some ((List.range (hi - lo).toNat).map fun (i : Nat) => PyData.int (lo + (i : Int))) else none) with
    | some xs => Res.ok (xs, (none : Option Nat)) ρ
    | none => .bad) = _
  rw [if_pos ok]
theorem rng1_ev {hi : Int} (ha : V1 p Φ a ρ (.int hi)) (ok : rngOk hi = true) : evI p Φ (.rng [a]) ρ = .ok ((List.range hi.toNat).map (fun (i : Nat) => PyData.int (0 + (i : Int))), none) ρ := by
  show (evEs p Φ [a] ρ).bind _ = _
  rw [va_cons ha va_nil]
  show (match (if rngOk hi = true then some ((List.range hi.toNat).map fun (i : Nat) => PyData.int (0 + (i : Int))) else none) with
    | some xs => Res.ok (xs, (none : Option Nat)) ρ
    | none => .bad) = _
  rw [if_pos ok]
theorem for_rng {lo hi : Int} {body : List IS} (Inv : Nat → Env → Prop) (ha : V1 p Φ a ρ (.int lo)) (hb : V1 p Φ b ρ (.int hi)) (ok : (rngOk lo && rngOk hi) = true) (n : Nat) (hn : (hi - lo).toNat = n) (h0 : Inv 0 ρ)
    (st : ∀ j, j < n → ∀ ρ, Inv j ρ → ∃ ρ', evSs p Φ np body (ρ.set i (some (.dat (.int (lo + (j : Int)))))) = .nx ρ' ∧ Inv (j + 1) ρ') : ∃ ρ', evS p Φ np (.forr (.name i) (.rng [a, b]) body) ρ = .nx ρ' ∧ Inv n ρ' := by
  rw [for_list (rng_ev ha hb ok), hn, List.range_eq_range']
  have := fold_inv (f := fun x ρ => evSs p Φ np body (ρ.set i (some (.dat x)))) (it := fun (i : Nat) => PyData.int (lo + (i : Int))) Inv n 0 ρ h0 fun j hj ρ hρ => by
    rw [Nat.zero_add] at hρ ⊢
    exact st j hj ρ hρ
  rw [Nat.zero_add] at this
  exact this
/-- sums over a range -/
def sumI (n : Nat) (f : Nat → Int) : Int := ((List.range n).map f).sum
theorem intsD_map {f : Nat → Int} : ∀ l : List Nat, intsD (l.map fun i => PyData.int (f i)) = some (l.map f)
  | [] => rfl
  | i :: l => by
    show (intsD (l.map fun i => PyData.int (f i))).map (fun q => f i :: q) = _
    rw [intsD_map l]
    rfl
theorem foldR_lc {f : Nat → Int} {it : Nat → PyData} {gd : Env → Bool} {G : List PyData → PyData → Env → Res (List PyData)} (P : Env → Prop) (hg : ∀ ρ, gd ρ = true) : ∀ (l : List Nat) (acc : List PyData) (ρ : Env), P ρ → acc.length + l.length ≤ 1000 →
    (∀ k ∈ l, ∀ (acc : List PyData) (ρ : Env), P ρ → acc.length ≤ 1000 → ∃ ρ', G acc (it k) ρ = .ok (acc ++ [.int (f k)]) ρ' ∧ P ρ') → ∃ ρ', foldR gd G (l.map it) acc ρ = .ok (acc ++ l.map fun k => .int (f k)) ρ' ∧ P ρ'
  | [], acc, ρ, hp, _, _ => by
    refine ⟨ρ, ?_, hp⟩
    rw [List.map_nil, List.map_nil, List.append_nil]
    show (if gd ρ = true then Res.ok acc ρ else .bad) = _
    rw [if_pos (hg ρ)]
  | k :: l, acc, ρ, hp, hl, h => by
    rw [List.length_cons] at hl
    obtain ⟨ρ1, h1, h2⟩ := h k List.mem_cons_self acc ρ hp (by omega)
    obtain ⟨ρ2, h3, h4⟩ := foldR_lc P hg l (acc ++ [.int (f k)]) ρ1 h2 (by rw [List.length_append]; show acc.length + 1 + l.length ≤ 1000; omega) fun j hj => h j (List.mem_cons_of_mem _ hj)
    refine ⟨ρ2, ?_, h4⟩
    show (if gd ρ = true then (G acc (it k) ρ).bind _ else Res.bad) = _
    rw [if_pos (hg ρ), h1]
    show foldR gd G (l.map it) (acc ++ [.int (f k)]) ρ1 = _
    rw [h3, List.append_assoc]
    rfl
theorem set_none {v : Nat} (h : ρ[v]? = some none) : ρ.set v none = ρ := by
  obtain ⟨h1, h2⟩ := List.getElem?_eq_some_iff.mp h
  rw [← h2]
  exact List.set_getElem_self h1
theorem x_sumlc {v : Nat} {lo hi : Int} {f : Nat → Int} (hv : ρ[v]? = some none) (ha : V1 p Φ a ρ (.int lo)) (hb : V1 p Φ b ρ (.int hi)) (ok : (rngOk lo && rngOk hi) = true) (n : Nat) (hn : (hi - lo).toNat = n) (hs : n ≤ 1000)
    (st : ∀ k, k < n → V1 p Φ e (ρ.set v (some (.dat (.int (lo + (k : Int)))))) (.int (f k))) : V1 p Φ (.blt .sum [.lc (.name v) [v] (.rng [a, b]) [] e]) ρ (.int (sumI n f)) := by
  have h0 : getS ρ v = none := by
    unfold getS
    rw [hv]
    rfl
  obtain ⟨ρ1, h1, h2⟩ := foldR_lc (f := f) (it := fun (k : Nat) => PyData.int (lo + (k : Int))) (gd := fun ρ1 => guardOk (wipeE ρ1 [v]) ((List.range n).map fun (k : Nat) => PyData.int (lo + (k : Int))) none)
    (G := fun acc x ρ1 => match asgT (.name v) x (wipeE ρ1 [v]) with
      | none => .bad
      | some ρ2 => (evC p Φ [] ρ2).bind fun b ρ3 => if b = true then (evE p Φ e ρ3).bind fun r ρ4 => (match frz ρ4 r with
        | some (d, ρ5) => if fitN acc.length = true then .ok (acc ++ [d]) ρ5 else .bad
        | none => .bad) else .ok acc ρ3) (fun ρ' => ρ'.set v none = ρ) (fun _ => rfl) (List.range n) [] ρ (set_none hv) (by rw [List.length_range]; show 0 + n ≤ 1000; omega) fun k hk acc ρ' hρ hacc => by
      refine ⟨ρ.set v (some (.dat (.int (lo + (k : Int))))), ?_, by rw [List.set_set]; exact set_none hv⟩
      have e1 : asgT (.name v) (PyData.int (lo + (k : Int))) (wipeE ρ' [v]) = some (ρ.set v (some (.dat (.int (lo + (k : Int)))))) := by
        show some ((ρ'.set v none).set v (some (.dat (.int (lo + (k : Int)))))) = _
        rw [hρ]
      rw [e1]
      show (evE p Φ e (ρ.set v (some (.dat (.int (lo + (k : Int)))))) ).bind _ = _
      rw [st k (List.mem_range.mp hk)]
      show (if fitN acc.length = true then Res.ok (acc ++ [PyData.int (f k)]) (ρ.set v (some (.dat (.int (lo + (k : Int)))))) else .bad) = _
      exact if_pos (show fitN acc.length = true from decide_eq_true (by omega))
  have hlc : evE p Φ (.lc (.name v) [v] (.rng [a, b]) [] e) ρ = .ok (.val (.own (.lst ((List.range n).map fun k => .int (f k))))) ρ := by
    show (evI p Φ (.rng [a, b]) ρ).bind _ = _
    rw [rng_ev ha hb ok, hn]
    show (match foldR _ _ _ [] (ρ.set v none) with
      | .ok acc ρ1 => Res.ok (Rv.val (.own (.lst acc))) (ρ1.set v (getS ρ v))
      | _ => .bad) = _
    rw [set_none hv]
    have key := congrArg (fun r : Res (List PyData) => (match r with
      | .ok acc ρ1 => Res.ok (Rv.val (.own (.lst acc))) (ρ1.set v (getS ρ v))
      | _ => .bad : Res Rv)) h1
    refine Eq.trans ?_ (key.trans ?_)
    · rfl
    · show Res.ok (Rv.val (.own (.lst ([] ++ (List.range n).map fun k => PyData.int (f k))))) (ρ1.set v (getS ρ v)) = _
      rw [h0, h2]
      rfl
  show (evEs p Φ [_] ρ).bind _ = _
  rw [evEs_cons, hlc]
  show svR ρ ((intsD ((List.range n).map fun k => PyData.int (f k))).map fun ns => Sv.dat (.int ns.sum)) = _
  rw [intsD_map]
  rfl
end Mini
/-! Mini, part X: rules that go through a block from its front. -/
namespace Mini
open PySem L2
variable {p : Pg} {Φ : Orc} {ρ ρ0 ρ1 ρ2 ρ3 : Env} {a b c k e : IE} {x y z d kd : PyData} {i j n np : Nat} {s : IS} {ss t f : List IS} {Q : SRes → Prop} {r : Rv}

/-! ### expressions that may change slots -/
abbrev W1 (p : Pg) (Φ : Orc) (e : IE) (ρ : Env) (d : PyData) (ρ' : Env) : Prop := evE p Φ e ρ = .ok (.val (.dat d)) ρ'
def WA (p : Pg) (Φ : Orc) (es : List IE) (ρ : Env) (ds : List PyData) (ρ' : Env) : Prop := evEs p Φ es ρ = .ok (ds.map fun d => Rv.val (.dat d)) ρ'
theorem wa_nil : WA p Φ [] ρ [] ρ := evEs_nil
theorem wa_cons {es : List IE} {ds : List PyData} (ha : W1 p Φ a ρ d ρ1) (hr : WA p Φ es ρ1 ds ρ2) : WA p Φ (a :: es) ρ (d :: ds) ρ2 := by
  unfold WA
  rw [evEs_cons, ha]
  show (evEs p Φ es ρ1).bind _ = _
  rw [hr]
  rfl
theorem g_bin {op : BOp} {v : Sv} (ha : W1 p Φ a ρ x ρ1) (hb : W1 p Φ b ρ1 y ρ2) (h : binD op x y = some v) : evE p Φ (.bin op a b) ρ = .ok (.val v) ρ2 := by
  show (evE p Φ a ρ).bind _ = _
  rw [ha]
  show (evE p Φ b ρ1).bind _ = _
  rw [hb]
  show svR ρ2 (binD op x y) = _
  rw [h]
  rfl
theorem g_add {s t : Int} (ha : W1 p Φ a ρ (.int s) ρ1) (hb : W1 p Φ b ρ1 (.int t) ρ2) : W1 p Φ (.bin .add a b) ρ (.int (s + t)) ρ2 := g_bin ha hb rfl
theorem g_sub {s t : Int} (ha : W1 p Φ a ρ (.int s) ρ1) (hb : W1 p Φ b ρ1 (.int t) ρ2) : W1 p Φ (.bin .sub a b) ρ (.int (s - t)) ρ2 := g_bin ha hb rfl
theorem g_mul {s t : Int} (ha : W1 p Φ a ρ (.int s) ρ1) (hb : W1 p Φ b ρ1 (.int t) ρ2) (h : mulOk s t = true) : W1 p Φ (.bin .mul a b) ρ (.int (s * t)) ρ2 := g_bin ha hb (if_pos h)
theorem g_fdiv {s t : Int} (ha : W1 p Φ a ρ (.int s) ρ1) (hb : W1 p Φ b ρ1 (.int t) ρ2) (h : divOk t = true) : W1 p Φ (.bin .fdiv a b) ρ (.int (s.fdiv t)) ρ2 := g_bin ha hb (if_pos h)
theorem g_mod {s t : Int} (ha : W1 p Φ a ρ (.int s) ρ1) (hb : W1 p Φ b ρ1 (.int t) ρ2) (h : t ≠ 0) : W1 p Φ (.bin .mod a b) ρ (.int (s.fmod t)) ρ2 := g_bin ha hb (by
  show (if decide (t = 0) = true then none else some (Sv.dat (.int (s.fmod t)))) = _
  rw [if_neg (by simpa using h)])
theorem g_neg {s : Int} (ha : W1 p Φ a ρ (.int s) ρ1) : W1 p Φ (.neg a) ρ (.int (-s)) ρ1 := by
  show (evE p Φ a ρ).bind _ = _
  rw [ha]
  rfl
theorem g_cmp {op : COp} {t : Bool} (ha : W1 p Φ a ρ x ρ1) (hb : W1 p Φ b ρ1 y ρ2) (h : cmpD op x y = some t) : W1 p Φ (.cmp op a b) ρ (.bool t) ρ2 := by
  show (evE p Φ a ρ).bind _ = _
  rw [ha]
  show (evE p Φ b ρ1).bind _ = _
  rw [hb]
  show boolR ρ2 (cmpD op x y) = _
  rw [h]
  rfl
/-- any two operands -/
theorem g_cmpR {op : COp} {t : Bool} {ra rb : Rv} (ha : evE p Φ a ρ = .ok ra ρ1) (hb : evE p Φ b ρ1 = .ok rb ρ2) (h : ((ra.data ρ2).bind fun x => (rb.data ρ2).bind fun y => cmpD op x y) = some t) : W1 p Φ (.cmp op a b) ρ (.bool t) ρ2 := by
  show (evE p Φ a ρ).bind _ = _
  rw [ha]
  show (evE p Φ b ρ1).bind _ = _
  rw [hb]
  show boolR ρ2 ((ra.data ρ2).bind fun x => (rb.data ρ2).bind fun y => cmpD op x y) = _
  rw [h]
  rfl
theorem g_chainF {o1 o2 : COp} (ha : W1 p Φ a ρ x ρ1) (hb : W1 p Φ b ρ1 y ρ2) (h : cmpD o1 x y = some false) : W1 p Φ (.chain o1 o2 a b c) ρ (.bool false) ρ2 := by
  show (evE p Φ a ρ).bind _ = _
  rw [ha]
  show (evE p Φ b ρ1).bind _ = _
  rw [hb]
  show (match cmpD o1 x y with
    | some false => Res.ok (Rv.val (.dat (.bool false))) ρ2
    | some true => _
    | none => .bad) = _
  rw [h]
theorem g_chainT {o1 o2 : COp} {t : Bool} (ha : W1 p Φ a ρ x ρ1) (hb : W1 p Φ b ρ1 y ρ2) (h : cmpD o1 x y = some true) (hc : W1 p Φ c ρ2 z ρ3) (h2 : cmpD o2 y z = some t) : W1 p Φ (.chain o1 o2 a b c) ρ (.bool t) ρ3 := by
  show (evE p Φ a ρ).bind _ = _
  rw [ha]
  show (evE p Φ b ρ1).bind _ = _
  rw [hb]
  show (match cmpD o1 x y with
    | some false => Res.ok (Rv.val (.dat (.bool false))) ρ2
    | some true => (evE p Φ c ρ2).bind fun rc ρ => boolR ρ (((Rv.val (.dat y)).data ρ).bind fun y => (rc.data ρ).bind fun z => cmpD o2 y z)
    | none => .bad) = _
  rw [h]
  show (evE p Φ c ρ2).bind _ = _
  rw [hc]
  show boolR ρ3 (cmpD o2 y z) = _
  rw [h2]
  rfl
theorem g_andF (ha : W1 p Φ a ρ x ρ1) (h : truD x = some false) : W1 p Φ (.and a b) ρ x ρ1 := by
  show (evE p Φ a ρ).bind _ = _
  rw [ha]
  show (match truD x with
    | some true => evE p Φ b ρ1
    | some false => Res.ok (Rv.val (.dat x)) ρ1
    | none => .bad) = _
  rw [h]
theorem g_andT (ha : W1 p Φ a ρ x ρ1) (h : truD x = some true) : evE p Φ (.and a b) ρ = evE p Φ b ρ1 := by
  show (evE p Φ a ρ).bind _ = _
  rw [ha]
  show (match truD x with
    | some true => evE p Φ b ρ1
    | some false => Res.ok (Rv.val (.dat x)) ρ1
    | none => .bad) = _
  rw [h]
theorem g_orT (ha : W1 p Φ a ρ x ρ1) (h : truD x = some true) : W1 p Φ (.or a b) ρ x ρ1 := by
  show (evE p Φ a ρ).bind _ = _
  rw [ha]
  show (match truD x with
    | some true => Res.ok (Rv.val (.dat x)) ρ1
    | some false => evE p Φ b ρ1
    | none => .bad) = _
  rw [h]
theorem g_orF (ha : W1 p Φ a ρ x ρ1) (h : truD x = some false) : evE p Φ (.or a b) ρ = evE p Φ b ρ1 := by
  show (evE p Φ a ρ).bind _ = _
  rw [ha]
  show (match truD x with
    | some true => Res.ok (Rv.val (.dat x)) ρ1
    | some false => evE p Φ b ρ1
    | none => .bad) = _
  rw [h]
/-- and, or of two truths, the second one asked in the same slots -/
theorem g_and {s t : Bool} (ha : W1 p Φ a ρ (.bool s) ρ) (hb : s = true → W1 p Φ b ρ (.bool t) ρ) : W1 p Φ (.and a b) ρ (.bool (s && t)) ρ := by
  cases s with
  | false => exact g_andF ha rfl
  | true => exact (g_andT ha rfl).trans (hb rfl)
theorem g_or {s t : Bool} (ha : W1 p Φ a ρ (.bool s) ρ) (hb : s = false → W1 p Φ b ρ (.bool t) ρ) : W1 p Φ (.or a b) ρ (.bool (s || t)) ρ := by
  cases s with
  | false => exact (g_orF ha rfl).trans (hb rfl)
  | true => exact g_orT ha rfl
theorem g_not {t : Bool} (ha : W1 p Φ a ρ x ρ1) (h : truD x = some t) : W1 p Φ (.not a) ρ (.bool !t) ρ1 := by
  show (evE p Φ a ρ).bind _ = _
  rw [ha]
  show boolR ρ1 ((truD x).map fun b => !b) = _
  rw [h]
  rfl
theorem g_ife {t : Bool} (hc : W1 p Φ c ρ x ρ1) (h : truD x = some t) : evE p Φ (.ife c a b) ρ = if t = true then evE p Φ a ρ1 else evE p Φ b ρ1 := by
  show (evE p Φ c ρ).bind _ = _
  rw [hc]
  show (match truD x with
    | some true => evE p Φ a ρ1
    | some false => evE p Φ b ρ1
    | none => .bad) = _
  rw [h]
  cases t <;> rfl
theorem g_isi {ty : Ty} (ha : W1 p Φ a ρ x ρ1) : W1 p Φ (.isi a ty) ρ (.bool (isTy ty x)) ρ1 := by
  show (evE p Φ a ρ).bind _ = _
  rw [ha]
  rfl
theorem g_tup {es : List IE} {ds : List PyData} (h : WA p Φ es ρ ds ρ1) (hf : fitN ds.length = true) : W1 p Φ (.tup es) ρ (.tuple ds) ρ1 := by
  show (evEs p Φ es ρ).bind _ = _
  rw [h]
  show (match frzAll ρ1 (ds.map fun d => Rv.val (.dat d)) with
    | some (ds, ρ) => if fitN ds.length then Res.ok (Rv.val (.dat (.tuple ds))) ρ else .bad
    | none => .bad) = _
  rw [frzAll_dat]
  exact if_pos hf
theorem g_lst {es : List IE} {ds : List PyData} (h : WA p Φ es ρ ds ρ1) (hf : fitN ds.length = true) : evE p Φ (.lst es) ρ = .ok (.val (.own (.lst ds))) ρ1 := by
  show (evEs p Φ es ρ).bind _ = _
  rw [h]
  show (match frzAll ρ1 (ds.map fun d => Rv.val (.dat d)) with
    | some (ds, ρ) => if fitN ds.length then Res.ok (Rv.val (.own (.lst ds))) ρ else .bad
    | none => .bad) = _
  rw [frzAll_dat]
  exact if_pos hf
theorem g_blt {f : Blt} {es : List IE} {ds : List PyData} {s : Sv} (h : WA p Φ es ρ ds ρ1) (hz : bltD f ds = some s) : evE p Φ (.blt f es) ρ = .ok (.val s) ρ1 := by
  show (evEs p Φ es ρ).bind _ = _
  rw [h]
  show svR ρ1 ((dataAll ρ1 (ds.map fun d => Rv.val (.dat d))).bind (bltD f)) = _
  rw [dataAll_dat]
  show svR ρ1 (bltD f ds) = _
  rw [hz]
  rfl
/-- a built-in function of one thing, whatever it is -/
theorem g_blt1 {f : Blt} {s : Sv} {r : Rv} (h : evE p Φ a ρ = .ok r ρ1) (hd : r.data ρ1 = some x) (hz : bltD f [x] = some s) : evE p Φ (.blt f [a]) ρ = .ok (.val s) ρ1 := by
  show (evEs p Φ [a] ρ).bind _ = _
  rw [evEs_cons, h]
  show svR ρ1 ((dataAll ρ1 [r]).bind (bltD f)) = _
  rw [show dataAll ρ1 [r] = some [x] by
    show ((r.data ρ1).bind fun d => (some []).map fun ds => d :: ds) = _
    rw [hd]
    rfl]
  show svR ρ1 (bltD f [x]) = _
  rw [hz]
  rfl
theorem g_ix (ha : W1 p Φ a ρ x ρ1) (hb : W1 p Φ b ρ1 y ρ2) (h : ixD x y = some z) : W1 p Φ (.ix a b) ρ z ρ2 := by
  show (evE p Φ a ρ).bind _ = _
  rw [ha]
  show (evE p Φ b ρ1).bind _ = _
  rw [hb]
  show datR ρ2 (ixD x y) = _
  rw [h]
  rfl
/-- what stands in a slot that owns something -/
theorem g_own {c : Ct} (h : getS ρ i = some (.own c)) : evE p Φ (.var i) ρ = .ok (.slot i) ρ := by
  show (match getS ρ i with
    | some (.dat d) => Res.ok (Rv.val (.dat d)) ρ
    | some (.own _) => .ok (.slot i) ρ
    | some (.exc c fs) => .ok (.val (.exc c fs)) ρ
    | some (.glt ds) => .ok (.val (.glt ds)) ρ
    | none => .bad) = _
  rw [h]
theorem slot_data {c : Ct} (h : getS ρ i = some (.own c)) : Rv.data ρ (.slot i) = some c.data := by
  show (getS ρ i).bind Sv.data = _
  rw [h]
  rfl
/-- a call with data alone -/
theorem callF_dat {f : Nat} {kp : List Bool} {ds : List PyData} {v : Sv} {ps : Env} (h : Φ f (ds.map Sv.dat) = some (.ret v ps)) : callF Φ f kp (ds.map fun d => Rv.val (.dat d)) ρ = .ok (.val v) ρ := by
  have gb : ∀ (ds : List PyData) (ps : Env), giveBack ρ (ds.map fun _ => (none : Option Nat)) ps = some ρ := by
    intro ds
    induction ds with
    | nil => exact fun _ => rfl
    | cons d ds ih => exact fun ps => ih ps.tail
  unfold callF
  rw [lend_dat]
  show (match Φ f (ds.map Sv.dat) with
    | none => Res.bad
    | some (.ret s ps) => (match giveBack ρ (ds.map fun _ => (none : Option Nat)) ps with
      | some ρ2 => Res.ok (Rv.val s) ρ2
      | none => .bad)
    | some (.exc c fs ps) => (match giveBack ρ (ds.map fun _ => (none : Option Nat)) ps with
      | some ρ2 => .exc c fs ρ2
      | none => .bad)) = _
  rw [h]
  show (match giveBack ρ (ds.map fun _ => (none : Option Nat)) ps with
      | some ρ2 => Res.ok (Rv.val v) ρ2
      | none => .bad) = _
  rw [gb]
theorem callF_exc {f : Nat} {kp : List Bool} {ds : List PyData} {cl : Nat} {fs : List (Str × PyData)} {ps : Env} (h : Φ f (ds.map Sv.dat) = some (.exc cl fs ps)) : callF Φ f kp (ds.map fun d => Rv.val (.dat d)) ρ = .exc cl fs ρ := by
  have gb : ∀ (ds : List PyData) (ps : Env), giveBack ρ (ds.map fun _ => (none : Option Nat)) ps = some ρ := by
    intro ds
    induction ds with
    | nil => exact fun _ => rfl
    | cons d ds ih => exact fun ps => ih ps.tail
  unfold callF
  rw [lend_dat]
  show (match Φ f (ds.map Sv.dat) with
    | none => Res.bad
    | some (.ret s ps) => (match giveBack ρ (ds.map fun _ => (none : Option Nat)) ps with
      | some ρ2 => Res.ok (Rv.val s) ρ2
      | none => .bad)
    | some (.exc c fs ps) => (match giveBack ρ (ds.map fun _ => (none : Option Nat)) ps with
      | some ρ2 => .exc c fs ρ2
      | none => .bad)) = _
  rw [h]
  show (match giveBack ρ (ds.map fun _ => (none : Option Nat)) ps with
      | some ρ2 => (Res.exc cl fs ρ2 : Res Rv)
      | none => .bad) = _
  rw [gb]
theorem g_call {f : Nat} {es : List IE} {ds : List PyData} {v : Sv} {ps : Env} (ha : WA p Φ es ρ ds ρ1) (h : Φ f (ds.map Sv.dat) = some (.ret v ps)) : evE p Φ (.call f es) ρ = .ok (.val v) ρ1 := by
  show (evEs p Φ es ρ).bind _ = _
  rw [ha]
  exact callF_dat h
theorem g_callX {f : Nat} {es : List IE} {ds : List PyData} {cl : Nat} {fs : List (Str × PyData)} {ps : Env} (ha : WA p Φ es ρ ds ρ1) (h : Φ f (ds.map Sv.dat) = some (.exc cl fs ps)) : evE p Φ (.call f es) ρ = .exc cl fs ρ1 := by
  show (evEs p Φ es ρ).bind _ = _
  rw [ha]
  exact callF_exc h
theorem place_dat {ds qs : List PyData} {pl : List Nat} (h : (pl.mapM fun j => ds[j]?) = some qs) : place (ds.map fun d => Rv.val (.dat d)) pl = some (qs.map fun d => Rv.val (.dat d)) := by
  unfold place
  induction pl generalizing qs with
  | nil =>
    cases h
    rfl
  | cons j pl ih =>
    rw [List.mapM_cons] at h ⊢
    cases e1 : ds[j]? with
    | none =>
      rw [e1] at h
      cases h
    | some d1 =>
      rw [e1] at h
      cases e2 : (pl.mapM fun j => ds[j]?) with
      | none =>
        rw [e2] at h
        cases h
      | some q2 =>
        rw [e2] at h
        cases h
        rw [ih e2, List.getElem?_map, e1]
        rfl
theorem g_callk {f : Nat} {es : List IE} {pl : List Nat} {ds qs : List PyData} {v : Sv} {ps : Env} (ha : WA p Φ es ρ ds ρ1) (hp : (pl.mapM fun j => ds[j]?) = some qs) (h : Φ f (qs.map Sv.dat) = some (.ret v ps)) : evE p Φ (.callk f es pl) ρ = .ok (.val v) ρ1 := by
  show (evEs p Φ es ρ).bind _ = _
  rw [ha]
  show (match place (ds.map fun d => Rv.val (.dat d)) pl with
    | some qs => callF Φ f (p.kp f) qs ρ1
    | none => .bad) = _
  rw [place_dat hp]
  exact callF_dat h
theorem g_callkX {f : Nat} {es : List IE} {pl : List Nat} {ds qs : List PyData} {cl : Nat} {fs : List (Str × PyData)} {ps : Env} (ha : WA p Φ es ρ ds ρ1) (hp : (pl.mapM fun j => ds[j]?) = some qs) (h : Φ f (qs.map Sv.dat) = some (.exc cl fs ps)) : evE p Φ (.callk f es pl) ρ = .exc cl fs ρ1 := by
  show (evEs p Φ es ρ).bind _ = _
  rw [ha]
  show (match place (ds.map fun d => Rv.val (.dat d)) pl with
    | some qs => callF Φ f (p.kp f) qs ρ1
    | none => .bad) = _
  rw [place_dat hp]
  exact callF_exc h
/-- f(x, m): the first thing is a slot's own and comes back changed -/
theorem g_lent {f : Nat} {c c' : Ct} {v v2 : Sv} {ps : Env} (hi : getS ρ1 i = some (.own c)) (hk : (p.kp f).headD false = true) (h0 : evE p Φ (.var i) ρ = .ok (.slot i) ρ) (hb : evE p Φ b ρ = .ok (.val v2) ρ1) (h : Φ f [.own c, v2] = some (.ret v (some (.own c') :: ps))) :
    evE p Φ (.call f [.var i, b]) ρ = .ok (.val v) (ρ1.set i (some (.own c'))) := by
  show (evEs p Φ [.var i, b] ρ).bind _ = _
  rw [evEs_cons, h0]
  show ((evEs p Φ [b] ρ).bind fun rs ρ => Res.ok (Rv.slot i :: rs) ρ).bind _ = _
  rw [show evEs p Φ [b] ρ = .ok [.val v2] ρ1 from by
    rw [evEs_cons, hb]
    rfl]
  show callF Φ f (p.kp f) [.slot i, .val v2] ρ1 = _
  unfold callF
  have e : lend ρ1 [Rv.slot i, .val v2] (p.kp f) = some ([.own c, v2], ρ1.set i none, [some i, none]) := by
    show (match lend1 ρ1 (.slot i) ((p.kp f).headD false) with
      | none => none
      | some (s, ρ1, l) => match lend ρ1 [Rv.val v2] (p.kp f).tail with
        | none => none
        | some (ss, ρ2, ls) => some (s :: ss, ρ2, l :: ls)) = _
    rw [hk]
    show (match (match getS ρ1 i with
      | some (.dat d) => some (Sv.dat d, ρ1, none)
      | some (.own c) => if true = true then some (.own c, ρ1.set i none, some i) else some (.dat c.data, ρ1.set i (some (.dat c.data)), none)
      | _ => none) with
      | none => none
      | some (s, ρ1, l) => match lend ρ1 [Rv.val v2] (p.kp f).tail with
        | none => none
        | some (ss, ρ2, ls) => some (s :: ss, ρ2, l :: ls)) = _
    rw [hi]
    rfl
  rw [e]
  show (match Φ f [.own c, v2] with
    | none => Res.bad
    | some (.ret s ps) => (match giveBack (ρ1.set i none) [some i, none] ps with
      | some ρ2 => Res.ok (Rv.val s) ρ2
      | none => .bad)
    | some (.exc c fs ps) => (match giveBack (ρ1.set i none) [some i, none] ps with
      | some ρ2 => .exc c fs ρ2
      | none => .bad)) = _
  rw [h]
  show Res.ok (Rv.val v) ((ρ1.set i none).set i (some (.own c'))) = _
  rw [List.set_set]
/-- one slot's own thing alone is handed over -/
theorem g_lent1 {f : Nat} {c c' : Ct} {v : Sv} {ps : Env} (hi : getS ρ i = some (.own c)) (hk : (p.kp f).headD false = true) (h : Φ f [.own c] = some (.ret v (some (.own c') :: ps))) :
    evE p Φ (.call f [.var i]) ρ = .ok (.val v) (ρ.set i (some (.own c'))) := by
  show (evEs p Φ [.var i] ρ).bind _ = _
  rw [evEs_cons, g_own hi]
  show callF Φ f (p.kp f) [.slot i] ρ = _
  unfold callF
  have e : lend ρ [Rv.slot i] (p.kp f) = some ([.own c], ρ.set i none, [some i]) := by
    show (match lend1 ρ (.slot i) ((p.kp f).headD false) with
      | none => none
      | some (s, ρ1, l) => match lend ρ1 [] (p.kp f).tail with
        | none => none
        | some (ss, ρ2, ls) => some (s :: ss, ρ2, l :: ls)) = _
    rw [hk]
    show (match (match getS ρ i with
      | some (.dat d) => some (Sv.dat d, ρ, none)
      | some (.own c) => if true = true then some (.own c, ρ.set i none, some i) else some (.dat c.data, ρ.set i (some (.dat c.data)), none)
      | _ => none) with
      | none => none
      | some (s, ρ1, l) => match lend ρ1 [] (p.kp f).tail with
        | none => none
        | some (ss, ρ2, ls) => some (s :: ss, ρ2, l :: ls)) = _
    rw [hi]
    rfl
  rw [e]
  show (match Φ f [.own c] with
    | none => Res.bad
    | some (.ret s ps) => (match giveBack (ρ.set i none) [some i] ps with
      | some ρ2 => Res.ok (Rv.val s) ρ2
      | none => .bad)
    | some (.exc c fs ps) => (match giveBack (ρ.set i none) [some i] ps with
      | some ρ2 => .exc c fs ρ2
      | none => .bad)) = _
  rw [h]
  show Res.ok (Rv.val v) ((ρ.set i none).set i (some (.own c'))) = _
  rw [List.set_set]

/-! ### blocks -/
/-- what a block's end must be -/
structure Ht (Q : SRes → Prop) (r : SRes) : Prop where
  mk ::
  q : Q r
theorem ht_eq {r R : SRes} (h : Ht (fun z => z = R) r) : r = R := h.q
theorem h_step (h : evS p Φ np s ρ = .nx ρ1) (k : Ht Q (evSs p Φ np ss ρ1)) : Ht Q (evSs p Φ np (s :: ss) ρ) := by
  rw [n_cons h]
  exact k
theorem h_nil (k : Q (.nx ρ)) : Ht Q (evSs p Φ np [] ρ) := ⟨k⟩
theorem h_asg (h : W1 p Φ e ρ d ρ1) (k : Ht Q (evSs p Φ np ss (ρ1.set i (some (.dat d))))) : Ht Q (evSs p Φ np (.asg (.name i) e :: ss) ρ) := h_step (by
  show (evE p Φ e ρ).st _ = _
  rw [h]
  rfl) k
/-- a thing of its own -/
theorem h_asgV {v : Sv} (h : evE p Φ e ρ = .ok (.val v) ρ1) (k : Ht Q (evSs p Φ np ss (ρ1.set i (some v)))) : Ht Q (evSs p Φ np (.asg (.name i) e :: ss) ρ) := h_step (by
  show (evE p Φ e ρ).st _ = _
  rw [h]
  rfl) k
theorem h_asgT {ts : List Tgt} {ds : List PyData} (h : W1 p Φ e ρ (.tuple ds) ρ1) (ht : asgTs ts ds ρ1 = some ρ2) (k : Ht Q (evSs p Φ np ss ρ2)) : Ht Q (evSs p Φ np (.asg (.tup ts) e :: ss) ρ) := h_step (by
  show (evE p Φ e ρ).st _ = _
  rw [h]
  show nxO (asgTs ts ds ρ1) = _
  rw [ht]
  rfl) k
theorem h_aug {s t : Int} (hi : getS ρ i = some (.dat (.int s))) (h : W1 p Φ e ρ (.int t) ρ1) (k : Ht Q (evSs p Φ np ss (ρ1.set i (some (.dat (.int (s + t))))))) : Ht Q (evSs p Φ np (.aug i .add e :: ss) ρ) := h_step (by
  show (match getS ρ i with
    | some (.dat x) => (evE p Φ e ρ).st fun r ρ => nxO ((r.data ρ).bind fun y => (augV .add x y).map fun d => ρ.set i (some (.dat d)))
    | _ => .bad) = _
  rw [hi]
  show (evE p Φ e ρ).st _ = _
  rw [h]
  rfl) k
theorem h_par {is : List Nat} {es : List IE} {rs : List Rv} {vs : List Sv} {ls : List (Option Nat)} (h : evEs p Φ es ρ = .ok rs ρ1) (hl : lend ρ1 rs [] = some (vs, ρ2, ls)) (nd : (decide is.Nodup && decide (is.length = vs.length)) = true)
    (k : Ht Q (evSs p Φ np ss (setMany ρ2 is vs))) : Ht Q (evSs p Φ np (.par is es :: ss) ρ) := h_step (by
  show (evEs p Φ es ρ).st _ = _
  rw [h]
  show nxO ((lend ρ1 rs []).bind _) = _
  rw [hl]
  show nxO (if (decide is.Nodup && decide (is.length = vs.length)) = true then some (setMany ρ2 is vs) else none) = _
  rw [if_pos nd]
  rfl) k
/-- two names at once, of data -/
theorem h_parD {is : List Nat} {es : List IE} {ds : List PyData} (h : WA p Φ es ρ ds ρ1) (nd : (decide is.Nodup && decide (is.length = ds.length)) = true) (k : Ht Q (evSs p Φ np ss (setMany ρ1 is (ds.map Sv.dat)))) : Ht Q (evSs p Φ np (.par is es :: ss) ρ) :=
  h_par h (lend_dat ds []) (by rw [List.length_map]; exact nd) k
theorem h_put {kvs : List (PyData × PyData)} (he : W1 p Φ e ρ d ρ1) (ht : getS ρ1 i = some (.own (.dic true kvs))) (hk : W1 p Φ k ρ1 kd ρ1) (h1 : isKey kd = true) (h2 : isTup kd = true) (h3 : fitN kvs.length = true)
    (q : Ht Q (evSs p Φ np ss (ρ1.set i (some (.own (.dic true (putD kvs kd d))))))) : Ht Q (evSs p Φ np (.setIx i k e :: ss) ρ) := h_step (by
  show (evE p Φ e ρ).st _ = _
  rw [he]
  show setAt p Φ i k d ρ1 = _
  unfold setAt
  rw [ht]
  show (evE p Φ k ρ1).st _ = _
  rw [hk]
  show nxO (putAt ρ1 i kd d) = _
  rw [putAt_dic ht h1 h2 h3]
  rfl) q
theorem setAt_dic {kvs : List (PyData × PyData)} (ht : getS ρ i = some (.own (.dic true kvs))) (hk : W1 p Φ k ρ kd ρ) (h1 : isKey kd = true) (h2 : isTup kd = true) (h3 : fitN kvs.length = true) : setAt p Φ i k d ρ = .nx (ρ.set i (some (.own (.dic true (putD kvs kd d))))) := by
  unfold setAt
  rw [ht]
  show (evE p Φ k ρ).st _ = _
  rw [hk]
  show nxO (putAt ρ i kd d) = _
  rw [putAt_dic ht h1 h2 h3]
  rfl
/-- two stores to dicts at once -/
theorem h_put2 {kvs kvs2 : List (PyData × PyData)} {l : IE} {kd2 : PyData} (hab : WA p Φ [a, b] ρ [x, y] ρ1) (ht : getS ρ1 i = some (.own (.dic true kvs))) (hk : W1 p Φ k ρ1 kd ρ1) (h1 : isKey kd = true) (h2 : isTup kd = true) (h3 : fitN kvs.length = true)
    (e2 : ρ1.set i (some (.own (.dic true (putD kvs kd x)))) = ρ2) (ht2 : getS ρ2 j = some (.own (.dic true kvs2))) (hk2 : W1 p Φ l ρ2 kd2 ρ2) (h4 : isKey kd2 = true) (h5 : isTup kd2 = true) (h6 : fitN kvs2.length = true)
    (q : Ht Q (evSs p Φ np ss (ρ2.set j (some (.own (.dic true (putD kvs2 kd2 y))))))) : Ht Q (evSs p Φ np (.setIx2 i k j l a b :: ss) ρ) := h_step (by
  show (evEs p Φ [a, b] ρ).st _ = _
  rw [hab]
  show (setAt p Φ i k x ρ1).seq (fun ρ => setAt p Φ j l y ρ) = _
  rw [setAt_dic ht hk h1 h2 h3, e2]
  exact setAt_dic ht2 hk2 h4 h5 h6) q
theorem h_putL {ds : List PyData} {t : Int} {m : Nat} (he : W1 p Φ e ρ d ρ1) (ht : getS ρ1 i = some (.own (.lst ds))) (hk : W1 p Φ k ρ1 (.int t) ρ1) (hn : L2.ixN ds.length t = some m)
    (q : Ht Q (evSs p Φ np ss (ρ1.set i (some (.own (.lst (ds.set m d))))))) : Ht Q (evSs p Φ np (.setIx i k e :: ss) ρ) := h_step (by
  show (evE p Φ e ρ).st _ = _
  rw [he]
  show setAt p Φ i k d ρ1 = _
  unfold setAt
  rw [ht]
  show (evE p Φ k ρ1).st _ = _
  rw [hk]
  show nxO (putAt ρ1 i (.int t) d) = _
  unfold putAt
  rw [ht]
  show nxO ((L2.ixN ds.length t).map fun n => ρ1.set i (some (.own (.lst (ds.set n d))))) = _
  rw [hn]
  rfl) q
theorem h_app {ds : List PyData} (h0 : getS ρ i = some (.own (.lst ds))) (he : W1 p Φ e ρ d ρ1) (ht : getS ρ1 i = some (.own (.lst ds))) (hf : fitN ds.length = true)
    (q : Ht Q (evSs p Φ np ss (ρ1.set i (some (.own (.lst (ds ++ [d]))))))) : Ht Q (evSs p Φ np (.app i e :: ss) ρ) := h_step (by
  show (if (slotL ρ i).isSome = true then _ else SRes.bad) = _
  rw [show slotL ρ i = some ds by unfold slotL; rw [h0]]
  show (if true = true then _ else SRes.bad) = _
  rw [if_pos rfl]
  rw [he]
  show nxO ((slotL ρ1 i).bind fun ds => appL ρ1 i ds d) = _
  rw [show slotL ρ1 i = some ds by unfold slotL; rw [ht]]
  show nxO (if fitN ds.length = true then _ else none) = _
  rw [if_pos hf]
  rfl) q
theorem h_ret (h : W1 p Φ e ρ d ρ1) (k : Q (.ret (.dat d) ρ1)) : Ht Q (evSs p Φ np (.ret e :: ss) ρ) := by
  rw [n_ret (v := .dat d) (ρ1 := ρ1) (by
    show (evE p Φ e ρ).st _ = _
    rw [h]
    rfl)]
  exact ⟨k⟩
theorem h_retV {v : Sv} (h : evE p Φ e ρ = .ok (.val v) ρ1) (k : Q (.ret v ρ1)) : Ht Q (evSs p Φ np (.ret e :: ss) ρ) := by
  rw [n_ret (v := v) (ρ1 := ρ1) (by
    show (evE p Φ e ρ).st _ = _
    rw [h]
    rfl)]
  exact ⟨k⟩
theorem h_raise {c : Nat} (k : Q (.exc c [] ρ)) : Ht Q (evSs p Φ np (.raise c [] :: ss) ρ) := ⟨k⟩
theorem h_expr (h : evE p Φ e ρ = .ok r ρ1) (k : Ht Q (evSs p Φ np ss ρ1)) : Ht Q (evSs p Φ np (.expr e :: ss) ρ) := h_step (by
  show (evE p Φ e ρ).st _ = _
  rw [h]
  rfl) k
theorem h_exprX {cl : Nat} {fs : List (Str × PyData)} (h : evE p Φ e ρ = .exc cl fs ρ1) (k : Q (.exc cl fs ρ1)) : Ht Q (evSs p Φ np (.expr e :: ss) ρ) := by
  rw [n_exc (cl := cl) (fs := fs) (ρ1 := ρ1) (by
    show (evE p Φ e ρ).st _ = _
    rw [h]
    rfl)]
  exact ⟨k⟩
theorem evSs_app : ∀ (t ss : List IS) (ρ : Env), evSs p Φ np (t ++ ss) ρ = (evSs p Φ np t ρ).seq fun ρ => evSs p Φ np ss ρ
  | [], ss, ρ => rfl
  | s :: t, ss, ρ => by
    show (evS p Φ np s ρ).seq (fun ρ => evSs p Φ np (t ++ ss) ρ) = ((evS p Φ np s ρ).seq fun ρ => evSs p Φ np t ρ).seq _
    cases evS p Φ np s ρ with
    | nx ρ1 => exact evSs_app t ss ρ1
    | _ => rfl
theorem ifs_eq {t' : Bool} (hc : evE p Φ c ρ = .ok r ρ1) (h : (r.data ρ1).bind truD = some t') : evSs p Φ np (.ifs c t f :: ss) ρ = evSs p Φ np ((if t' = true then t else f) ++ ss) ρ1 := by
  rw [evSs_app]
  show (((evE p Φ c ρ).bind fun r ρ => truR ρ r).st fun b ρ => if b = true then evSs p Φ np t ρ else evSs p Φ np f ρ).seq _ = _
  rw [hc]
  show ((truR ρ1 r).st _).seq _ = _
  unfold truR
  rw [h]
  show ((if t' = true then evSs p Φ np t ρ1 else evSs p Φ np f ρ1)).seq _ = _
  cases t' <;> rfl
theorem h_if {t' : Bool} (hc : W1 p Φ c ρ (.bool t') ρ1) (k1 : t' = true → Ht Q (evSs p Φ np (t ++ ss) ρ1)) (k2 : t' = false → Ht Q (evSs p Φ np (f ++ ss) ρ1)) : Ht Q (evSs p Φ np (.ifs c t f :: ss) ρ) := by
  rw [ifs_eq hc (show ((Rv.val (.dat (.bool t'))).data ρ1).bind truD = some t' from rfl)]
  cases t' with
  | true => exact k1 rfl
  | false => exact k2 rfl
theorem h_ifT (hc : W1 p Φ c ρ (.bool true) ρ1) (k : Ht Q (evSs p Φ np (t ++ ss) ρ1)) : Ht Q (evSs p Φ np (.ifs c t f :: ss) ρ) := h_if hc (fun _ => k) fun h => nomatch h
theorem h_ifF (hc : W1 p Φ c ρ (.bool false) ρ1) (k : Ht Q (evSs p Φ np (f ++ ss) ρ1)) : Ht Q (evSs p Φ np (.ifs c t f :: ss) ρ) := h_if hc (fun h => nomatch h) fun _ => k
/-- a test whose both ways meet again -/
theorem h_ifJ {t' : Bool} (J : Env → Prop) (hc : W1 p Φ c ρ (.bool t') ρ1) (k1 : t' = true → Ht (fun r => ∃ ρ', r = .nx ρ' ∧ J ρ') (evSs p Φ np t ρ1)) (k2 : t' = false → Ht (fun r => ∃ ρ', r = .nx ρ' ∧ J ρ') (evSs p Φ np f ρ1)) (k : ∀ ρ', J ρ' → Ht Q (evSs p Φ np ss ρ')) : Ht Q (evSs p Φ np (.ifs c t f :: ss) ρ) := by
  refine h_if hc (fun h => ?_) fun h => ?_
  · obtain ⟨ρ', e, j⟩ := (k1 h).q
    rw [evSs_app, e]
    exact k ρ' j
  · obtain ⟨ρ', e, j⟩ := (k2 h).q
    rw [evSs_app, e]
    exact k ρ' j
/-- a block that raises, under its clauses -/
theorem h_tryE {body : List IS} {hs : List (Nat × Option Nat × List IS)} {cl : Nat} {fs : List (Str × PyData)} (hb : Ht (fun r => r = .exc cl fs ρ1) (evSs p Φ np body ρ)) (hh : handle p.sub cl fs ρ1 (evHs p Φ np hs) = .nx ρ2) (k : Ht Q (evSs p Φ np ss ρ2)) : Ht Q (evSs p Φ np (.try_ body hs :: ss) ρ) := h_step (by
  show (match evSs p Φ np body ρ with
    | .exc c fs ρ => handle p.sub c fs ρ (evHs p Φ np hs)
    | r => r) = _
  rw [ht_eq hb]
  exact hh) k
theorem h_tryN {body : List IS} {hs : List (Nat × Option Nat × List IS)} (J : Env → Prop) (hb : Ht (fun r => ∃ ρ', r = .nx ρ' ∧ J ρ') (evSs p Φ np body ρ)) (k : ∀ ρ', J ρ' → Ht Q (evSs p Φ np ss ρ')) : Ht Q (evSs p Φ np (.try_ body hs :: ss) ρ) := by
  obtain ⟨ρ', e, j⟩ := hb.q
  refine h_step (ρ1 := ρ') ?_ (k ρ' j)
  show (match evSs p Φ np body ρ with
    | .exc c fs ρ => handle p.sub c fs ρ (evHs p Φ np hs)
    | r => r) = _
  rw [e]
/-- what a loop's turn must lead to -/
def Turn (Q : SRes → Prop) (N : Env → Prop) (B : Env → Prop) : SRes → Prop
  | .nx ρ => N ρ
  | .cnt ρ => N ρ
  | .brk ρ => B ρ
  | r => Q r
theorem fold_rule {g : PyData → Env → SRes} {gd : Env → Bool} {K : Env → SRes} (Inv : Nat → Env → Prop) : ∀ (xs : List PyData) (s : Nat) (ρ : Env), Inv s ρ → (∀ j ρ, Inv j ρ → gd ρ = true) →
    (∀ j x, xs[j]? = some x → ∀ ρ, Inv (s + j) ρ → Ht (Turn Q (Inv (s + j + 1)) fun ρ' => Q (K ρ')) (g x ρ)) → (∀ ρ, Inv (s + xs.length) ρ → Q (K ρ)) → Q ((foldS gd g xs ρ).seq K)
  | [], s, ρ, h, hg, _, k => by
    show Q ((if gd ρ = true then SRes.nx ρ else .bad).seq K)
    rw [if_pos (hg _ _ h)]
    exact k ρ h
  | x :: xs, s, ρ, h, hg, st, k => by
    show Q ((if gd ρ = true then (g x ρ).turn fun ρ' => foldS gd g xs ρ' else .bad).seq K)
    rw [if_pos (hg _ _ h)]
    have h1 := (st 0 x rfl ρ h).q
    have go : ∀ ρ', Inv (s + 1) ρ' → Q ((foldS gd g xs ρ').seq K) := fun ρ' h' => fold_rule Inv xs (s + 1) ρ' h' hg (fun j y hy ρ hi => by
      have := st (j + 1) y hy ρ (by rw [show s + (j + 1) = s + 1 + j by omega]; exact hi)
      rw [show s + (j + 1) = s + 1 + j by omega] at this
      exact this) fun ρ hi => k ρ (by
      rw [List.length_cons, show s + (xs.length + 1) = s + 1 + xs.length by omega]
      exact hi)
    cases e : g x ρ with
    | nx ρ' =>
      rw [e] at h1
      exact go ρ' h1
    | cnt ρ' =>
      rw [e] at h1
      exact go ρ' h1
    | brk ρ' =>
      rw [e] at h1
      exact h1
    | ret v ρ' =>
      rw [e] at h1
      exact h1
    | exc c fs ρ' =>
      rw [e] at h1
      exact h1
    | bad =>
      rw [e] at h1
      exact h1
theorem h_for {tg : Tgt} {it : II} {body : List IS} {xs : List PyData} {o : Option Nat} (Inv : Nat → Env → Prop) (he : evI p Φ it ρ = .ok (xs, o) ρ0) (hg : ∀ j ρ, Inv j ρ → guardOk ρ xs o = true) (h0 : Inv 0 ρ0)
    (st : ∀ j x, xs[j]? = some x → ∀ ρ, Inv j ρ → ∃ ρ1, asgT tg x ρ = some ρ1 ∧ Ht (Turn Q (Inv (j + 1)) fun ρ' => Q (evSs p Φ np ss ρ')) (evSs p Φ np body ρ1))
    (k : ∀ ρ, Inv xs.length ρ → Ht Q (evSs p Φ np ss ρ)) : Ht Q (evSs p Φ np (.forr tg it body :: ss) ρ) := by
  constructor
  show Q (((evI p Φ it ρ).st fun q ρ => foldS (fun ρ => guardOk ρ q.1 q.2) (fun x ρ => match asgT tg x ρ with
    | some ρ => evSs p Φ np body ρ
    | none => .bad) q.1 ρ).seq fun ρ => evSs p Φ np ss ρ)
  rw [he]
  refine fold_rule (K := fun ρ => evSs p Φ np ss ρ) Inv xs 0 ρ0 h0 hg (fun j x hx ρ hi => ?_) fun ρ hi => (k ρ (by rwa [Nat.zero_add] at hi)).q
  rw [Nat.zero_add] at hi ⊢
  obtain ⟨ρ1, h1, h2⟩ := st j x hx ρ hi
  rw [h1]
  exact h2
/-- for i in range(lo, hi) -/
theorem h_rng {v : Nat} {body : List IS} {lo hi : Int} (Inv : Nat → Env → Prop) (ha : V1 p Φ a ρ (.int lo)) (hb : V1 p Φ b ρ (.int hi)) (ok : (rngOk lo && rngOk hi) = true) (n : Nat) (hn : (hi - lo).toNat = n) (h0 : Inv 0 ρ)
    (st : ∀ j, j < n → ∀ ρ, Inv j ρ → Ht (Turn Q (Inv (j + 1)) fun ρ' => Q (evSs p Φ np ss ρ')) (evSs p Φ np body (ρ.set v (some (.dat (.int (lo + (j : Int))))))))
    (k : ∀ ρ, Inv n ρ → Ht Q (evSs p Φ np ss ρ)) : Ht Q (evSs p Φ np (.forr (.name v) (.rng [a, b]) body :: ss) ρ) := by
  refine h_for Inv (rng_ev ha hb ok) (fun _ _ _ => rfl) h0 (fun j x hx ρ hi => ⟨_, rfl, ?_⟩) fun ρ hi => k ρ ?_
  · rw [List.getElem?_map] at hx
    by_cases hj : j < n
    · rw [hn, List.getElem?_range hj] at hx
      cases hx
      exact st j hj ρ hi
    · rw [hn, List.getElem?_eq_none (by rw [List.length_range]; omega)] at hx
      cases hx
  · rw [List.length_map, List.length_range, hn] at hi
    exact hi
/-- for i in range(hi) -/
theorem h_rng1 {v : Nat} {body : List IS} {hi : Int} (Inv : Nat → Env → Prop) (ha : V1 p Φ a ρ (.int hi)) (ok : rngOk hi = true) (n : Nat) (hn : hi.toNat = n) (h0 : Inv 0 ρ)
    (st : ∀ j, j < n → ∀ ρ, Inv j ρ → Ht (Turn Q (Inv (j + 1)) fun ρ' => Q (evSs p Φ np ss ρ')) (evSs p Φ np body (ρ.set v (some (.dat (.int (j : Int)))))))
    (k : ∀ ρ, Inv n ρ → Ht Q (evSs p Φ np ss ρ)) : Ht Q (evSs p Φ np (.forr (.name v) (.rng [a]) body :: ss) ρ) := by
  refine h_for Inv (rng1_ev ha ok) (fun _ _ _ => rfl) h0 (fun j x hx ρ hi => ⟨_, rfl, ?_⟩) fun ρ hi => k ρ ?_
  · rw [List.getElem?_map] at hx
    by_cases hj : j < n
    · rw [hn, List.getElem?_range hj] at hx
      cases hx
      have := st j hj ρ hi
      rw [← Int.zero_add (j : Int)] at this
      exact this
    · rw [hn, List.getElem?_eq_none (by rw [List.length_range]; omega)] at hx
      cases hx
  · rw [List.length_map, List.length_range, hn] at hi
    exact hi
/-! ### calls -/
theorem r_of {dd : FnI} {vs : List Sv} {P : FRes → Prop} (hl : vs.length = dd.np) (h : Ht (fun r => ∃ fr, endF dd.kp dd.np r = some fr ∧ P fr) (evSs p Φ dd.np dd.body (vs.map some ++ List.replicate (dd.nl - dd.np) none))) : ∃ fr, runF p Φ dd vs = some fr ∧ P fr := by
  unfold runF
  rw [if_pos hl]
  exact h.q
theorem r_eq {dd : FnI} {vs : List Sv} {fr : FRes} (hl : vs.length = dd.np) (h : Ht (fun r => endF dd.kp dd.np r = some fr) (evSs p Φ dd.np dd.body (vs.map some ++ List.replicate (dd.nl - dd.np) none))) : runF p Φ dd vs = some fr := by
  unfold runF
  rw [if_pos hl]
  exact h.q
theorem orcS {fs : List FnI} {n i : Nat} {dd : FnI} {vs : List Sv} (h : fs[i]? = some dd) : orc p fs (n + 1) i vs = runF p (orc p fs n) dd vs := by
  show (fs[i]?).bind _ = _
  rw [h]
  rfl
end Mini
/-! Mini, part Y: drawing. -/
namespace Mini
open PySem L2
abbrev I (x : Int) : Option Sv := some (.dat (.int x))
/-! ### sizes -/
theorem log_lt {n m : Nat} (h : n ≤ 2 ^ m) : n.log2 < m + 1 := by
  by_cases h0 : n = 0
  · subst h0
    rw [Nat.log2_zero]
    omega
  · exact (Nat.log2_lt h0).mpr (Nat.lt_of_le_of_lt h (Nat.pow_lt_pow_right (by omega) (by omega)))
theorem wide_of {x y : Int} (hx : x.natAbs ≤ 2 ^ 12793) (hy : y.natAbs ≤ 2 ^ 12793) : mulOk x y = true := by
  have h1 := log_lt hx
  have h2 := log_lt hy
  unfold mulOk wide
  rw [decide_eq_true (show x.natAbs.log2 < 100000 by omega), decide_eq_true (show y.natAbs.log2 < 100000 by omega)]
  simp
theorem mul_small {x y : Int} (h1 : -18446744073709551616 < x) (h2 : x < 18446744073709551616) : mulOk x y = true := by
  unfold mulOk small
  rw [decide_eq_true h1, decide_eq_true h2]
  rfl
theorem mul_smallR {x y : Int} (h1 : -18446744073709551616 < y) (h2 : y < 18446744073709551616) : mulOk x y = true := by
  unfold mulOk small
  rw [decide_eq_true h1, decide_eq_true h2]
  simp
theorem mul_bd {x y : Int} {m n : Nat} (hx : x.natAbs ≤ m) (hy : y.natAbs ≤ n) : (x * y).natAbs ≤ m * n := by
  rw [Int.natAbs_mul]
  exact Nat.mul_le_mul hx hy
theorem wide_k {x y : Int} {m n : Nat} (hx : x.natAbs ≤ 2 ^ m) (hy : y.natAbs ≤ 2 ^ n) (hm : m ≤ 12793) (hn : n ≤ 12793) : mulOk x y = true :=
  wide_of (Nat.le_trans hx (Nat.pow_le_pow_right (by omega) hm)) (Nat.le_trans hy (Nat.pow_le_pow_right (by omega) hn))
theorem div_ok {t : Int} (h : 0 < t) (h2 : t.natAbs ≤ 2 ^ 7000) : divOk t = true := by
  have := log_lt h2
  unfold divOk
  rw [decide_eq_true h, decide_eq_true (show t.natAbs.log2 < 8000 by omega)]
  rfl
theorem div_okS {t : Int} (h : 0 < t) (h2 : t ≤ 18446744073709551616) : divOk t = true := div_ok h (by
  refine Nat.le_trans (show t.natAbs ≤ 18446744073709551616 by omega) ?_
  exact Nat.le_trans (show 18446744073709551616 ≤ 2 ^ 64 by decide) (Nat.pow_le_pow_right (by omega) (by omega)))
theorem fmod_in {x m : Int} (h : 0 < m) : 0 ≤ x.fmod m ∧ x.fmod m < m := ⟨Int.fmod_nonneg_of_pos x h, Int.fmod_lt_of_pos x h⟩
/-! ### a feed -/
def dFeed : FnI := ⟨2, 3, [(.asg (.name 2) (.bin .add (.bin .mul (.lit (.int 977)) (.var 1)) (.blt .sum [(.slc (.var 0) none (some (.lit (.int 1))))]))), (.ifs (.cmp .lt (.var 1) (.blt .len [(.var 0)])) [(.asg (.name 2) (.ix (.var 0) (.var 1)))] []), (.ret (.lst [(.blt .max [(.lit (.int 0)), (.bin .sub (.var 2) (.bin .pow (.lit (.int 10)) (.lit (.int 18))))]), (.bin .mod (.blt .int [(.bin .add (.bin .mul (.var 2) (.lit (.int 19))) (.bin .mul (.lit (.int 7)) (.var 1)))]) (.bin .add (.bin .pow (.lit (.int 10)) (.lit (.int 39))) (.lit (.int 23)))), (.lit (.int 0))]))], [true, true]⟩
def dDraw : FnI := ⟨2, 5, [(.ifs (.cmp .gt (.ix (.var 0) (.lit (.int 0))) (.lit (.int 0))) [(.asg (.name 2) (.bin .fdiv (.ix (.var 0) (.lit (.int 0))) (.var 1))), (.asg (.name 3) (.bin .sub (.ix (.var 0) (.lit (.int 0))) (.bin .mul (.var 2) (.var 1)))), (.setIx 0 (.lit (.int 0)) (.var 2)), (.ret (.var 3))] []), (.setIx 0 (.lit (.int 2)) (.bin .add (.ix (.var 0) (.lit (.int 2))) (.lit (.int 1)))), (.asg (.name 4) (.bin .add (.ix (.var 0) (.lit (.int 1))) (.bin .mul (.lit (.int 6700417)) (.ix (.var 0) (.lit (.int 2)))))), (.asg (.name 4) (.bin .mod (.blt .int [(.bin .add (.bin .mul (.bin .mul (.var 4) (.var 4)) (.var 4)) (.bin .mul (.lit (.int 15485863)) (.ix (.var 0) (.lit (.int 2)))))]) (.bin .add (.bin .pow (.lit (.int 10)) (.lit (.int 43))) (.lit (.int 57))))), (.asg (.name 4) (.bin .mod (.blt .int [(.bin .add (.bin .mul (.var 4) (.var 4)) (.lit (.int 32452843)))]) (.bin .add (.bin .pow (.lit (.int 10)) (.lit (.int 38))) (.lit (.int 133))))), (.ret (.bin .mod (.blt .int [(.bin .fdiv (.var 4) (.bin .pow (.lit (.int 10)) (.lit (.int 9))))]) (.var 1)))], [true, true]⟩
/-- a feed of which at most N draws were stirred -/
def Fd (N : Nat) (c : Ct) : Prop := ∃ a b n : Int, c = .lst [.int a, .int b, .int n] ∧ 0 ≤ b ∧ b ≤ 10 ^ 39 + 23 ∧ 0 ≤ n ∧ n ≤ (N : Int)
theorem Fd.up {N M : Nat} {c : Ct} (h : Fd N c) (hm : N ≤ M) : Fd M c := by
  obtain ⟨a, b, n, e, h1, h2, h3, h4⟩ := h
  exact ⟨a, b, n, e, h1, h2, h3, by omega⟩
section
variable {p : Pg} {Φ : Orc} {ρ : Env}
theorem blt_int {a : IE} {t : Int} {ρ1 : Env} (h : W1 p Φ a ρ (.int t) ρ1) : W1 p Φ (.blt .int [a]) ρ (.int t) ρ1 := g_blt (wa_cons h wa_nil) rfl
theorem draw_ok {N : Nat} {c : Ct} {m : Int} (hc : Fd N c) (hN : N < 10000000) (hm : 0 < m) (hm2 : m ≤ 1000000) : ∃ (v : Int) (c' : Ct), runF p Φ dDraw [.own c, .dat (.int m)] = some (.ret (.dat (.int v)) [some (.own c'), I m]) ∧ 0 ≤ v ∧ v < m ∧ Fd (N + 1) c' := by
  obtain ⟨a, b, n, rfl, hb0, hb1, hn0, hn1⟩ := hc
  have dv : divOk m = true := div_okS hm (by omega)
  by_cases ha : 0 < a
  · refine ⟨a - a.fdiv m * m, .lst [.int (a.fdiv m), .int b, .int n], r_eq rfl ?_, ?_, ?_, ⟨_, b, n, rfl, hb0, hb1, hn0, by omega⟩⟩
    · refine h_ifT (g_cmp (x_ixL rfl x_lit rfl) x_lit (show some (decide (0 < a)) = _ by rw [decide_eq_true ha])) ?_
      refine h_asg (g_fdiv (x_ixL rfl x_lit rfl) (x_var rfl) dv) ?_
      refine h_asg (g_sub (x_ixL rfl x_lit rfl) (g_mul (x_var rfl) (x_var rfl) (mul_smallR (by omega) (by omega)))) ?_
      refine h_putL (x_var rfl) rfl x_lit rfl ?_
      exact h_ret (x_var rfl) rfl
    · have h1 := (fmod_in (x := a) hm).1
      rw [Int.fmod_def, Int.mul_comm] at h1
      exact h1
    · have h1 := (fmod_in (x := a) hm).2
      rw [Int.fmod_def, Int.mul_comm] at h1
      exact h1
  · have hs : (b + 6700417 * (n + 1)).natAbs ≤ 2 ^ 150 := by
      have : (b + 6700417 * (n + 1)).natAbs ≤ 10 ^ 39 + 23 + 6700417 * 10000001 := by omega
      exact Nat.le_trans this (by decide)
    have hss : ((b + 6700417 * (n + 1)) * (b + 6700417 * (n + 1))).natAbs ≤ 2 ^ 300 := by
      have := mul_bd hs hs
      rw [← Nat.pow_add] at this
      exact this
    have p43 : (0 : Int) < 10 ^ 43 + 57 := by decide
    have p38 : (0 : Int) < 10 ^ 38 + 133 := by decide
    have h2 : ∀ z : Int, (z.fmod (10 ^ 43 + 57)).natAbs ≤ 2 ^ 150 := fun z => by
      obtain ⟨e1, e2⟩ := fmod_in (x := z) p43
      have : (z.fmod (10 ^ 43 + 57)).natAbs ≤ 10 ^ 43 + 57 := by omega
      exact Nat.le_trans this (by decide)
    suffices key : ∃ fr, runF p Φ dDraw [.own (.lst [.int a, .int b, .int n]), .dat (.int m)] = some fr ∧ ∃ z : Int, fr = .ret (.dat (.int (z.fmod m))) [some (.own (.lst [.int a, .int b, .int (n + 1)])), I m] by
      obtain ⟨fr, e1, z, rfl⟩ := key
      exact ⟨_, .lst [.int a, .int b, .int (n + 1)], e1, (fmod_in hm).1, (fmod_in hm).2, ⟨_, b, n + 1, rfl, hb0, hb1, by omega, by omega⟩⟩
    refine r_of rfl ?_
    refine h_ifF (g_cmp (x_ixL rfl x_lit rfl) x_lit (show some (decide (0 < a)) = _ by rw [decide_eq_false ha])) ?_
    refine h_putL (g_add (x_ixL rfl x_lit rfl) x_lit) rfl x_lit rfl ?_
    refine h_asg (g_add (x_ixL rfl x_lit rfl) (g_mul x_lit (x_ixL rfl x_lit rfl) (mul_small (by omega) (by omega)))) ?_
    refine h_asg (g_mod (blt_int (g_add (g_mul (g_mul (x_var rfl) (x_var rfl) (wide_k hs hs (by omega) (by omega))) (x_var rfl) (wide_k hss hs (by omega) (by omega))) (g_mul x_lit (x_ixL rfl x_lit rfl) (mul_small (by omega) (by omega))))) (g_add (g_bin x_lit x_lit rfl) x_lit) (by decide)) ?_
    refine h_asg (g_mod (blt_int (g_add (g_mul (x_var rfl) (x_var rfl) (wide_k (h2 _) (h2 _) (by omega) (by omega))) x_lit)) (g_add (g_bin x_lit x_lit rfl) x_lit) (by decide)) ?_
    exact h_ret (g_mod (blt_int (g_fdiv (x_var rfl) (g_bin x_lit x_lit rfl) (div_okS (by decide) (by decide)))) (x_var rfl) (by omega)) ⟨_, rfl, _, rfl⟩
theorem feed_ok {ns : List Int} {k : Nat} (hk : k ≤ 1000) : ∃ c, runF p Φ dFeed [.dat (.list (ns.map .int)), .dat (.int (k : Int))] = some (.ret (.own c) [some (.dat (.list (ns.map .int))), I k]) ∧ Fd 0 c := by
  have fin : ∀ cell : Int, Ht (fun r => ∃ fr, endF [true, true] 2 r = some fr ∧ ∃ c, fr = .ret (.own c) [some (.dat (.list (ns.map .int))), I k] ∧ Fd 0 c) (evSs p Φ 2 [(.ret (.lst [(.blt .max [(.lit (.int 0)), (.bin .sub (.var 2) (.bin .pow (.lit (.int 10)) (.lit (.int 18))))]), (.bin .mod (.blt .int [(.bin .add (.bin .mul (.var 2) (.lit (.int 19))) (.bin .mul (.lit (.int 7)) (.var 1)))]) (.bin .add (.bin .pow (.lit (.int 10)) (.lit (.int 39))) (.lit (.int 23)))), (.lit (.int 0))]))] [some (.dat (.list (ns.map .int))), I k, I cell]) := by
    intro cell
    have p39 : (0 : Int) < 10 ^ 39 + 23 := by decide
    refine h_retV (g_lst (wa_cons (g_blt (wa_cons x_lit (wa_cons (g_sub (x_var rfl) (g_bin x_lit x_lit rfl)) wa_nil)) rfl) (wa_cons (g_mod (blt_int (g_add (g_mul (x_var rfl) x_lit (mul_smallR (by omega) (by omega))) (g_mul x_lit (x_var rfl) (mul_small (by omega) (by omega))))) (g_add (g_bin x_lit x_lit rfl) x_lit) (by decide)) (wa_cons x_lit wa_nil))) rfl) ?_
    exact ⟨_, rfl, _, rfl, _, _, _, rfl, (fmod_in p39).1, Int.le_of_lt (fmod_in p39).2, by omega, by omega⟩
  have key : ∃ fr, runF p Φ dFeed [.dat (.list (ns.map .int)), .dat (.int (k : Int))] = some fr ∧ ∃ c, fr = .ret (.own c) [some (.dat (.list (ns.map .int))), I k] ∧ Fd 0 c := by
    refine r_of rfl ?_
    have hsl : evE p Φ (.blt .sum [(.slc (.var 0) none (some (.lit (.int 1))))]) [some (.dat (.list (ns.map .int))), I k, none] = .ok (.val (.dat (.int (ns.take 1).sum))) [some (.dat (.list (ns.map .int))), I k, none] := by
      cases ns with
      | nil => rfl
      | cons n ns => rfl
    refine h_asg (g_add (g_mul x_lit (x_var rfl) (mul_small (by omega) (by omega))) hsl) ?_
    refine h_if (t' := decide (k < ns.length)) (g_cmp (x_var rfl) (g_blt (wa_cons (x_var rfl) wa_nil) rfl) ?_) (fun h => ?_) fun h => ?_
    · show some (decide ((k : Int) < ((ns.map PyData.int).length : Int))) = _
      rw [List.length_map]
      congr 1
      exact decide_eq_decide.mpr (by omega)
    · have h := of_decide_eq_true h
      refine h_asg (d := .int ns[k]) (x_ix (x_var rfl) (x_var rfl) ?_) ?_
      · show L2.atI (ns.map PyData.int) (k : Int) = _
        unfold L2.atI L2.ixN
        simp [h]
      · exact fin _
    · exact fin _
  obtain ⟨fr, h1, c, rfl, h2⟩ := key
  exact ⟨c, h1, h2⟩
/-- one of some things -/
def dOne (iD : Nat) : FnI := ⟨2, 2, [(.ret (.ix (.var 1) (.call iD [(.var 0), (.blt .len [(.var 1)])])))], [true, true]⟩
theorem atI_nat {α : Type} {xs : List α} {v : Int} (h : 0 ≤ v) (h2 : v < xs.length) : L2.atI xs v = some (xs[v.toNat]'(by omega)) := by
  obtain ⟨n, rfl⟩ : ∃ n : Nat, v = n := ⟨v.toNat, by omega⟩
  unfold L2.atI L2.ixN
  have : n < xs.length := by omega
  simp [this]
/-- things that are data -/
theorem one_ok {N iD : Nat} {c : Ct} {xs : List PyData} {x : PyData} (hx : x = .list xs ∨ x = .tuple xs) (hkp : (p.kp iD).headD false = true) (hd : ∀ m : Int, 0 < m → m ≤ 1000000 → ∃ (v : Int) (c' : Ct), Φ iD [.own c, .dat (.int m)] = some (.ret (.dat (.int v)) [some (.own c'), I m]) ∧ 0 ≤ v ∧ v < m ∧ Fd (N + 1) c')
    (h0 : xs ≠ []) (hl : xs.length ≤ 1000000) : ∃ (y : PyData) (c' : Ct), runF p Φ (dOne iD) [.own c, .dat x] = some (.ret (.dat y) [some (.own c'), some (.dat x)]) ∧ y ∈ xs ∧ Fd (N + 1) c' := by
  have l0 : 0 < xs.length := List.length_pos_iff.mpr h0
  obtain ⟨v, c', h1, h2, h3, h4⟩ := hd xs.length (by omega) (by omega)
  refine ⟨xs[v.toNat]'(by omega), c', r_eq rfl ?_, List.getElem_mem _, h4⟩
  have hlen : V1 p Φ (.blt .len [(.var 1)]) [some (.own c), some (.dat x)] (.int xs.length) := by
    rcases hx with rfl | rfl
    · exact g_blt (wa_cons (x_var rfl) wa_nil) rfl
    · exact g_blt (wa_cons (x_var rfl) wa_nil) rfl
  refine h_ret (ρ1 := [some (.own c'), some (.dat x)]) (g_ix (x_var rfl) (g_lent (ps := [I xs.length]) (c' := c') rfl hkp (g_own rfl) hlen h1) ?_) rfl
  rcases hx with rfl | rfl
  · exact atI_nat h2 h3
  · exact atI_nat h2 h3
/-- things in a list of their own -/
theorem one_okL {N iD : Nat} {c : Ct} {xs : List PyData} (hkp : (p.kp iD).headD false = true) (hd : ∀ m : Int, 0 < m → m ≤ 1000000 → ∃ (v : Int) (c' : Ct), Φ iD [.own c, .dat (.int m)] = some (.ret (.dat (.int v)) [some (.own c'), I m]) ∧ 0 ≤ v ∧ v < m ∧ Fd (N + 1) c')
    (h0 : xs ≠ []) (hl : xs.length ≤ 1000000) : ∃ (y : PyData) (c' : Ct), runF p Φ (dOne iD) [.own c, .own (.lst xs)] = some (.ret (.dat y) [some (.own c'), some (.own (.lst xs))]) ∧ y ∈ xs ∧ Fd (N + 1) c' := by
  have l0 : 0 < xs.length := List.length_pos_iff.mpr h0
  obtain ⟨v, c', h1, h2, h3, h4⟩ := hd xs.length (by omega) (by omega)
  refine ⟨xs[v.toNat]'(by omega), c', r_eq rfl ?_, List.getElem_mem _, h4⟩
  have hlen : V1 p Φ (.blt .len [(.var 1)]) [some (.own c), some (.own (.lst xs))] (.int xs.length) := g_blt1 (g_own rfl) rfl rfl
  have hc := g_lent (p := p) (i := 0) (f := iD) (ρ := [some (.own c), some (.own (.lst xs))]) (ps := [I xs.length]) (c' := c') rfl hkp (g_own rfl) hlen h1
  refine h_ret (d := xs[v.toNat]'(by omega)) (ρ1 := [some (.own c'), some (.own (.lst xs))]) ?_ rfl
  show (evE p Φ (.var 1) [some (.own c), some (.own (.lst xs))]).bind _ = _
  rw [g_own (c := .lst xs) rfl]
  show (evE p Φ (.call iD _) _).bind _ = _
  rw [hc]
  show datR _ (L2.atI xs v) = _
  rw [atI_nat h2 h3]
  rfl
end
end Mini
/-! Mini, part Z: comprehensions, while, chains, ends. -/
namespace Mini
open PySem L2
variable {p : Pg} {Φ : Orc} {ρ ρ0 ρ1 ρ2 ρ3 : Env} {a b c k e : IE} {x y z d kd : PyData} {i j n np : Nat} {s : IS} {ss t f : List IS} {Q : SRes → Prop} {r : Rv}
theorem x_glb {n : Str} : V1 p Φ (.glb n d) ρ d := rfl
theorem set_none' {v : Nat} (h : ρ[v]? = some none) (x : Option Sv) : (ρ.set v x).set v none = ρ := by
  rw [List.set_set]
  exact set_none h
/-- [e for v in it], e asked in the same slots -/
theorem g_lc {v : Nat} {it : II} {xs : List PyData} {o : Option Nat} {cs : List IE} {cf : PyData → Bool} {g : PyData → PyData} (hv : ρ[v]? = some none) (hi : evI p Φ it ρ = .ok (xs, o) ρ) (hg : guardOk ρ xs o = true) (hl : xs.length ≤ 1000000)
    (hc : ∀ x ∈ xs, evC p Φ cs (ρ.set v (some (.dat x))) = .ok (cf x) (ρ.set v (some (.dat x))))
    (he : ∀ x ∈ xs, cf x = true → W1 p Φ e (ρ.set v (some (.dat x))) (g x) (ρ.set v (some (.dat x)))) : evE p Φ (.lc (.name v) [v] it cs e) ρ = .ok (.val (.own (.lst ((xs.filter cf).map g)))) ρ := by
  have h0 : getS ρ v = none := by
    unfold getS
    rw [hv]
    rfl
  have go : ∀ (ys : List PyData) (acc : List PyData) (ρ' : Env), ρ'.set v none = ρ → (∀ x ∈ ys, x ∈ xs) → acc.length + ys.length ≤ xs.length → ∃ ρ1, foldR (fun ρ1 => guardOk (wipeE ρ1 [v]) xs o) (fun acc x ρ1 => match asgT (.name v) x (wipeE ρ1 [v]) with
      | none => .bad
      | some ρ2 => (evC p Φ cs ρ2).bind fun b ρ3 => if b = true then (evE p Φ e ρ3).bind fun r ρ4 => (match frz ρ4 r with
        | some (d, ρ5) => if fitN acc.length = true then .ok (acc ++ [d]) ρ5 else .bad
        | none => .bad) else .ok acc ρ3) ys acc ρ' = .ok (acc ++ (ys.filter cf).map g) ρ1 ∧ ρ1.set v none = ρ := by
    intro ys
    induction ys with
    | nil =>
      intro acc ρ' h1 _ _
      refine ⟨ρ', ?_, h1⟩
      show (if guardOk (ρ'.set v none) xs o = true then Res.ok acc ρ' else .bad) = _
      rw [h1, if_pos hg, List.filter_nil, List.map_nil, List.append_nil]
    | cons y ys ih =>
      intro acc ρ' h1 h2 h3
      rw [List.length_cons] at h3
      have hy := h2 y List.mem_cons_self
      have step : (match asgT (.name v) y (wipeE ρ' [v]) with
      | none => Res.bad
      | some ρ2 => (evC p Φ cs ρ2).bind fun b ρ3 => if b = true then (evE p Φ e ρ3).bind fun r ρ4 => (match frz ρ4 r with
        | some (d, ρ5) => if fitN acc.length = true then Res.ok (acc ++ [d]) ρ5 else .bad
        | none => .bad) else .ok acc ρ3) = .ok (acc ++ ([y].filter cf).map g) (ρ.set v (some (.dat y))) := by
        show (evC p Φ cs ((ρ'.set v none).set v (some (.dat y)))).bind _ = _
        rw [h1, hc y hy]
        show (if cf y = true then _ else _) = _
        cases hcf : cf y with
        | false =>
          rw [if_neg Bool.false_ne_true, List.filter_cons, hcf, if_neg Bool.false_ne_true, List.filter_nil, List.map_nil, List.append_nil]
        | true =>
          rw [if_pos rfl, he y hy hcf]
          show (if fitN acc.length = true then Res.ok (acc ++ [g y]) _ else .bad) = _
          rw [if_pos (show fitN acc.length = true from decide_eq_true (by omega)), List.filter_cons, hcf, if_pos rfl, List.filter_nil]
          rfl
      obtain ⟨ρ1, h4, h5⟩ := ih (acc ++ ([y].filter cf).map g) (ρ.set v (some (.dat y))) (set_none' hv _) (fun x hx => h2 x (List.mem_cons_of_mem _ hx)) (by
        have : (([y].filter cf).map g).length ≤ 1 := by
          rw [List.length_map]
          exact Nat.le_trans (List.length_filter_le _ _) (Nat.le_refl _)
        rw [List.length_append]
        omega)
      refine ⟨ρ1, ?_, h5⟩
      show (if guardOk (ρ'.set v none) xs o = true then (_ : Res (List PyData)).bind _ else .bad) = _
      rw [h1, if_pos hg]
      refine (congrArg (fun r : Res (List PyData) => r.bind _) step).trans ?_
      show foldR _ _ ys (acc ++ ([y].filter cf).map g) (ρ.set v (some (.dat y))) = _
      rw [h4, List.append_assoc, ← List.map_append, ← List.filter_append]
      rfl
  obtain ⟨ρ1, h1, h2⟩ := go xs [] ρ (set_none hv) (fun _ h => h) (by simp)
  show (evI p Φ it ρ).bind _ = _
  rw [hi]
  show (match foldR _ _ xs [] (ρ.set v none) with
    | .ok acc ρ1 => Res.ok (Rv.val (.own (.lst acc))) (ρ1.set v (getS ρ v))
    | _ => .bad) = _
  rw [set_none hv]
  have key := congrArg (fun r : Res (List PyData) => (match r with
    | .ok acc ρ1 => Res.ok (Rv.val (.own (.lst acc))) (ρ1.set v (getS ρ v))
    | _ => .bad : Res Rv)) h1
  refine Eq.trans ?_ (key.trans ?_)
  · rfl
  · show Res.ok (Rv.val (.own (.lst ([] ++ (xs.filter cf).map g)))) (ρ1.set v (getS ρ v)) = _
    rw [h0, h2]
    rfl
/-- without a test -/
theorem g_lc0 {v : Nat} {it : II} {xs : List PyData} {o : Option Nat} {g : PyData → PyData} (hv : ρ[v]? = some none) (hi : evI p Φ it ρ = .ok (xs, o) ρ) (hg : guardOk ρ xs o = true) (hl : xs.length ≤ 1000000)
    (he : ∀ x ∈ xs, W1 p Φ e (ρ.set v (some (.dat x))) (g x) (ρ.set v (some (.dat x)))) : evE p Φ (.lc (.name v) [v] it [] e) ρ = .ok (.val (.own (.lst (xs.map g)))) ρ := by
  have h := g_lc (cs := []) (cf := fun _ => true) hv hi hg hl (fun x _ => by
    unfold evC
    rfl) (fun x hx _ => he x hx)
  rw [List.filter_eq_self.mpr fun _ _ => rfl] at h
  exact h
theorem evC1 {q : Bool} (h : W1 p Φ c ρ (.bool q) ρ) : evC p Φ [c] ρ = .ok q ρ := by
  unfold evC
  rw [h]
  show (match some q with
    | some true => evC p Φ [] ρ
    | some false => Res.ok false ρ
    | none => .bad) = _
  cases q with
  | false => rfl
  | true =>
    show evC p Φ [] ρ = _
    unfold evC
    rfl
theorem i_tup {xs : List PyData} (h : V1 p Φ a ρ (.tuple xs)) : evI p Φ (.val a) ρ = .ok (xs, none) ρ := by
  unfold evI
  rw [h]
  rfl
theorem i_list {xs : List PyData} (h : V1 p Φ a ρ (.list xs)) : evI p Φ (.val a) ρ = .ok (xs, none) ρ := by
  unfold evI
  rw [h]
  rfl
theorem i_own {xs : List PyData} (h : evE p Φ a ρ = .ok (.val (.own (.lst xs))) ρ1) : evI p Φ (.val a) ρ = .ok (xs, none) ρ1 := by
  unfold evI
  rw [h]
  rfl
theorem i_slot {xs : List PyData} (h : getS ρ i = some (.own (.lst xs))) : evI p Φ (.val (.var i)) ρ = .ok (xs, some i) ρ := by
  unfold evI
  rw [g_own h]
  show (match getS ρ i with
    | some (.own (.lst ds)) => Res.ok (ds, some i) ρ
    | _ => .bad) = _
  rw [h]
theorem i_str {x : Str} (h : V1 p Φ a ρ (.str x)) : evI p Φ (.val a) ρ = .ok (x.cps.toList.map fun c => .str ⟨#[c]⟩, none) ρ := by
  unfold evI
  rw [h]
  rfl
theorem boolsD_map {f : PyData → Bool} : ∀ {l : List PyData}, boolsD (l.map fun x => .bool (f x)) = some (l.map f)
  | [] => rfl
  | x :: l => by
    show (boolsD (l.map fun x => .bool (f x))).map (fun q => f x :: q) = _
    rw [boolsD_map]
    rfl
theorem all_map {f : PyData → Bool} (l : List PyData) : (l.map f).all id = l.all f := by
  rw [List.all_map]
  rfl
/-- all([e for v in it]) -/
theorem g_all {v : Nat} {it : II} {xs : List PyData} {f : PyData → Bool} (hv : ρ[v]? = some none) (hi : evI p Φ it ρ = .ok (xs, none) ρ) (hl : xs.length ≤ 1000000)
    (he : ∀ x ∈ xs, W1 p Φ e (ρ.set v (some (.dat x))) (.bool (f x)) (ρ.set v (some (.dat x)))) : W1 p Φ (.blt .all [.lc (.name v) [v] it [] e]) ρ (.bool (xs.all f)) ρ := by
  refine g_blt1 (g_lc0 (g := fun x => .bool (f x)) hv hi rfl hl he) rfl ?_
  show (boolsD (xs.map fun x => .bool (f x))).map (fun bs => Sv.dat (.bool (bs.all id))) = _
  rw [boolsD_map, Option.map_some, all_map]
/-! ### comparisons -/
theorem c_lt {s t : Int} (ha : W1 p Φ a ρ (.int s) ρ1) (hb : W1 p Φ b ρ1 (.int t) ρ2) : W1 p Φ (.cmp .lt a b) ρ (.bool (decide (s < t))) ρ2 := g_cmp ha hb rfl
theorem c_le {s t : Int} (ha : W1 p Φ a ρ (.int s) ρ1) (hb : W1 p Φ b ρ1 (.int t) ρ2) : W1 p Φ (.cmp .le a b) ρ (.bool (decide (s ≤ t))) ρ2 := g_cmp ha hb rfl
theorem c_gt {s t : Int} (ha : W1 p Φ a ρ (.int s) ρ1) (hb : W1 p Φ b ρ1 (.int t) ρ2) : W1 p Φ (.cmp .gt a b) ρ (.bool (decide (t < s))) ρ2 := g_cmp ha hb rfl
theorem c_eqI {s t : Int} (ha : W1 p Φ a ρ (.int s) ρ1) (hb : W1 p Φ b ρ1 (.int t) ρ2) : W1 p Φ (.cmp .eq a b) ρ (.bool (decide (s = t))) ρ2 := g_cmp ha hb rfl
theorem c_neI {s t : Int} (ha : W1 p Φ a ρ (.int s) ρ1) (hb : W1 p Φ b ρ1 (.int t) ρ2) : W1 p Φ (.cmp .ne a b) ρ (.bool (!decide (s = t))) ρ2 := g_cmp ha hb rfl
theorem c_eqS {s t : Str} (ha : W1 p Φ a ρ (.str s) ρ1) (hb : W1 p Φ b ρ1 (.str t) ρ2) : W1 p Φ (.cmp .eq a b) ρ (.bool (decide (s = t))) ρ2 := g_cmp ha hb rfl
theorem c_neS {s t : Str} (ha : W1 p Φ a ρ (.str s) ρ1) (hb : W1 p Φ b ρ1 (.str t) ρ2) : W1 p Φ (.cmp .ne a b) ρ (.bool (!decide (s = t))) ρ2 := g_cmp ha hb rfl
theorem c_lele {s t u : Int} (ha : W1 p Φ a ρ (.int s) ρ) (hb : W1 p Φ b ρ (.int t) ρ) (hc : W1 p Φ c ρ (.int u) ρ) : W1 p Φ (.chain .le .le a b c) ρ (.bool (decide (s ≤ t) && decide (t ≤ u))) ρ := by
  cases h : decide (s ≤ t) with
  | false => exact g_chainF ha hb (show some (decide (s ≤ t)) = _ by rw [h])
  | true => exact g_chainT ha hb (show some (decide (s ≤ t)) = _ by rw [h]) hc rfl
theorem c_ltlt {s t u : Int} (ha : W1 p Φ a ρ (.int s) ρ) (hb : W1 p Φ b ρ (.int t) ρ) (hc : W1 p Φ c ρ (.int u) ρ) : W1 p Φ (.chain .lt .lt a b c) ρ (.bool (decide (s < t) && decide (t < u))) ρ := by
  cases h : decide (s < t) with
  | false => exact g_chainF ha hb (show some (decide (s < t)) = _ by rw [h])
  | true => exact g_chainT ha hb (show some (decide (s < t)) = _ by rw [h]) hc rfl
theorem g_notB {q : Bool} (h : W1 p Φ a ρ (.bool q) ρ1) : W1 p Φ (.not a) ρ (.bool (!q)) ρ1 := g_not h rfl
theorem l_tup {xs : List PyData} (h : W1 p Φ a ρ (.tuple xs) ρ1) : W1 p Φ (.blt .len [a]) ρ (.int xs.length) ρ1 := g_blt (wa_cons h wa_nil) rfl
theorem l_list {xs : List PyData} (h : W1 p Φ a ρ (.list xs) ρ1) : W1 p Φ (.blt .len [a]) ρ (.int xs.length) ρ1 := g_blt (wa_cons h wa_nil) rfl
theorem l_str {x : Str} (h : W1 p Φ a ρ (.str x) ρ1) (hf : x.length ≤ 1000000) : W1 p Φ (.blt .len [a]) ρ (.int x.length) ρ1 := g_blt (wa_cons h wa_nil) (if_pos (decide_eq_true hf))
theorem l_own {xs : List PyData} (h : evE p Φ a ρ = .ok (.val (.own (.lst xs))) ρ1) : W1 p Φ (.blt .len [a]) ρ (.int xs.length) ρ1 := g_blt1 h rfl rfl
theorem l_slot {xs : List PyData} (h : getS ρ i = some (.own (.lst xs))) : W1 p Φ (.blt .len [.var i]) ρ (.int xs.length) ρ := g_blt1 (g_own h) (slot_data h) rfl
/-- t[i], a tuple -/
theorem ix_tup {xs : List PyData} {v : Nat} {w : Int} (ha : W1 p Φ a ρ (.tuple xs) ρ1) (hb : W1 p Φ b ρ1 (.int w) ρ2) (hw : w = (v : Int)) (h : xs[v]? = some z) : W1 p Φ (.ix a b) ρ z ρ2 := by
  subst hw
  obtain ⟨hl, rfl⟩ := List.getElem?_eq_some_iff.mp h
  refine g_ix ha hb ?_
  show L2.atI xs (v : Int) = _
  rw [atI_nat (by omega) (by omega)]
  rfl
/-- return e, e asked in the same slots -/
theorem h_ret0 (h : V1 p Φ e ρ d) (k : Q (.ret (.dat d) ρ)) : Ht Q (evSs p Φ np (.ret e :: ss) ρ) := h_ret h k
/-! ### while -/
theorem while_rule {c' : Env → Res Bool} {g : Env → SRes} {K : Env → SRes} (Inv : Nat → Env → Prop) (st : ∀ m ρ, Inv m ρ → ∃ q ρ1, c' ρ = .ok q ρ1 ∧ (q = false → Q (K ρ1)) ∧ (q = true → ∃ m', m = m' + 1 ∧ Ht (Turn Q (Inv m') fun ρ' => Q (K ρ')) (g ρ1))) :
    ∀ (m n : Nat) (ρ : Env), m < n → Inv m ρ → Q ((whileS c' g n ρ).seq K)
  | m, 0, ρ, h, _ => by omega
  | m, n + 1, ρ, h, hi => by
    obtain ⟨q, ρ1, e, h1, h2⟩ := st m ρ hi
    show Q (((c' ρ).st fun t ρ1 => if t = true then (g ρ1).turn fun ρ2 => whileS c' g n ρ2 else .nx ρ1).seq K)
    rw [e]
    show Q ((if q = true then (g ρ1).turn fun ρ2 => whileS c' g n ρ2 else .nx ρ1).seq K)
    cases q with
    | false =>
      rw [if_neg Bool.false_ne_true]
      exact h1 rfl
    | true =>
      rw [if_pos rfl]
      obtain ⟨m', rfl, h3⟩ := h2 rfl
      have h3 := h3.q
      cases e2 : g ρ1 with
      | nx ρ' =>
        rw [e2] at h3
        exact while_rule Inv st m' n ρ' (by omega) h3
      | cnt ρ' =>
        rw [e2] at h3
        exact while_rule Inv st m' n ρ' (by omega) h3
      | brk ρ' =>
        rw [e2] at h3
        exact h3
      | ret v ρ' =>
        rw [e2] at h3
        exact h3
      | exc c fs ρ' =>
        rw [e2] at h3
        exact h3
      | bad =>
        rw [e2] at h3
        exact h3
theorem h_while {body : List IS} (Inv : Nat → Env → Prop) (m : Nat) (hm : m < 1000000) (h0 : Inv m ρ)
    (st : ∀ m ρ, Inv m ρ → ∃ q ρ1, W1 p Φ c ρ (.bool q) ρ1 ∧ (q = false → Ht Q (evSs p Φ np ss ρ1)) ∧ (q = true → ∃ m', m = m' + 1 ∧ Ht (Turn Q (Inv m') fun ρ' => Q (evSs p Φ np ss ρ')) (evSs p Φ np body ρ1))) : Ht Q (evSs p Φ np (.whl c body :: ss) ρ) := by
  constructor
  show Q ((whileS (fun ρ => (evE p Φ c ρ).bind fun r ρ => truR ρ r) (fun ρ => evSs p Φ np body ρ) turns ρ).seq fun ρ => evSs p Φ np ss ρ)
  refine while_rule (K := fun ρ => evSs p Φ np ss ρ) Inv (fun m ρ hi => ?_) m turns ρ hm h0
  obtain ⟨q, ρ1, e, h1, h2⟩ := st m ρ hi
  refine ⟨q, ρ1, ?_, fun h => (h1 h).q, h2⟩
  show (evE p Φ c ρ).bind _ = _
  rw [e]
  rfl
end Mini
namespace Mini
open PySem L2
def D_is_integer : FnI := ⟨1, 1, [(.ret (.and (.isi (.var 0) .int) (.not (.isi (.var 0) .bool))))], [true]⟩
def D_is_row : FnI := ⟨3, 3, [(.ret (.and (.isi (.var 0) .tuple) (.chain .le .le (.var 1) (.blt .len [(.var 0)]) (.var 2))))], [true, true, true]⟩
def D_are_integers (c_is_row c_is_integer : Nat) : FnI := ⟨2, 3, [(.ret (.and (.call c_is_row [(.var 0), (.var 1), (.var 1)]) (.blt .all [(.lc (.name 2) [2] (.val (.var 0)) [] (.call c_is_integer [(.var 2)]))])))], [true, true]⟩
def D_is_name : FnI := ⟨1, 2, [(.ifs (.or (.not (.isi (.var 0) .str)) (.not (.chain .le .le (.lit (.int 1)) (.blt .len [(.var 0)]) (.glb "MOST_SIGNS" (.int 8))))) [(.ret (.lit (.bool false)))] []), (.ret (.and (.cmp .inn (.ix (.var 0) (.lit (.int 0))) (.glb "LETTERS" (.str "abcdefghijklmnopqrstuvwxyz"))) (.blt .all [(.lc (.name 1) [1] (.val (.var 0)) [] (.or (.cmp .inn (.var 1) (.glb "LETTERS" (.str "abcdefghijklmnopqrstuvwxyz"))) (.cmp .inn (.var 1) (.glb "DIGITS" (.str "0123456789")))))])))], [true]⟩
def D_is_fraction (c_are_integers : Nat) : FnI := ⟨1, 1, [(.ret (.and (.call c_are_integers [(.var 0), (.lit (.int 2))]) (.and (.cmp .gt (.ix (.var 0) (.lit (.int 1))) (.lit (.int 0))) (.cmp .eq (.blt .gcd [(.ix (.var 0) (.lit (.int 0))), (.ix (.var 0) (.lit (.int 1)))]) (.lit (.int 1))))))], [true]⟩
def D_least : FnI := ⟨2, 3, [(.ifs (.cmp .lt (.var 1) (.lit (.int 0))) [(.par [0, 1] [(.neg (.var 0)), (.neg (.var 1))])] []), (.asg (.name 2) (.blt .gcd [(.var 0), (.var 1)])), (.ret (.tup [(.bin .fdiv (.var 0) (.var 2)), (.bin .fdiv (.var 1) (.var 2))]))], [false, false]⟩
def D_plus (c_least : Nat) : FnI := ⟨2, 2, [(.ret (.call c_least [(.bin .add (.bin .mul (.ix (.var 0) (.lit (.int 0))) (.ix (.var 1) (.lit (.int 1)))) (.bin .mul (.ix (.var 1) (.lit (.int 0))) (.ix (.var 0) (.lit (.int 1))))), (.bin .mul (.ix (.var 0) (.lit (.int 1))) (.ix (.var 1) (.lit (.int 1))))]))], [true, true]⟩
def D_minus (c_least : Nat) : FnI := ⟨2, 2, [(.ret (.call c_least [(.bin .sub (.bin .mul (.ix (.var 0) (.lit (.int 0))) (.ix (.var 1) (.lit (.int 1)))) (.bin .mul (.ix (.var 1) (.lit (.int 0))) (.ix (.var 0) (.lit (.int 1))))), (.bin .mul (.ix (.var 0) (.lit (.int 1))) (.ix (.var 1) (.lit (.int 1))))]))], [true, true]⟩
def D_times (c_least : Nat) : FnI := ⟨2, 2, [(.ret (.call c_least [(.bin .mul (.ix (.var 0) (.lit (.int 0))) (.ix (.var 1) (.lit (.int 0)))), (.bin .mul (.ix (.var 0) (.lit (.int 1))) (.ix (.var 1) (.lit (.int 1))))]))], [true, true]⟩
def D_between (c_plus c_times c_minus : Nat) : FnI := ⟨3, 3, [(.ret (.call c_plus [(.var 0), (.call c_times [(.call c_minus [(.var 1), (.var 0)]), (.var 2)])]))], [true, true, true]⟩
def D_parted (c_between : Nat) : FnI := ⟨3, 8, [(.asg (.tup [(.name 3), (.name 4), (.name 5), (.name 6)]) (.var 0)), (.ifs (.cmp .eq (.var 1) (.lit (.str "across"))) [(.asg (.name 7) (.call c_between [(.var 3), (.var 4), (.var 2)])), (.ret (.tup [(.tup [(.var 3), (.var 7), (.var 5), (.var 6)]), (.tup [(.var 7), (.var 4), (.var 5), (.var 6)])]))] []), (.asg (.name 7) (.call c_between [(.var 5), (.var 6), (.var 2)])), (.ret (.tup [(.tup [(.var 3), (.var 4), (.var 5), (.var 7)]), (.tup [(.var 3), (.var 4), (.var 7), (.var 6)])]))], [true, true, true]⟩
def D_children : FnI := ⟨1, 1, [(.ret (.ife (.cmp .eq (.ix (.var 0) (.lit (.int 0))) (.lit (.str "part"))) (.slc (.var 0) (some (.lit (.int 1))) (some (.lit (.int 1)))) (.slc (.var 0) (some (.lit (.int 2))) none)))], [true]⟩
def D_size_in (c_children c_size_in : Nat) : FnI := ⟨1, 3, [(.asg (.name 1) (.ife (.cmp .inn (.ix (.var 0) (.lit (.int 0))) (.tup [(.lit (.str "part")), (.lit (.str "within"))])) (.lit (.int 1)) (.lit (.int 0)))), (.ret (.bin .add (.var 1) (.blt .sum [(.lc (.name 2) [2] (.val (.call c_children [(.var 0)])) [] (.call c_size_in [(.var 2)]))])))], [true]⟩
def D_depth_in (c_children c_depth_in : Nat) : FnI := ⟨1, 2, [(.ret (.bin .add (.lit (.int 1)) (.blt .max [(.bin .add (.lst [(.lit (.int 0))]) (.lc (.name 1) [1] (.val (.call c_children [(.var 0)])) [] (.call c_depth_in [(.var 1)])))])))], [true]⟩
def D_is_word_of : FnI := ⟨2, 2, [(.ret (.and (.isi (.var 0) .str) (.cmp .inn (.var 0) (.var 1))))], [true, true]⟩
def D_is_cut (c_is_fraction : Nat) : FnI := ⟨1, 1, [(.ret (.and (.call c_is_fraction [(.var 0)]) (.chain .lt .lt (.lit (.int 0)) (.ix (.var 0) (.lit (.int 0))) (.ix (.var 0) (.lit (.int 1))))))], [true]⟩
def D_is_fine : FnI := ⟨1, 2, [(.ret (.blt .all [(.lc (.name 1) [1] (.val (.var 0)) [] (.cmp .le (.ix (.var 1) (.lit (.int 1))) (.glb "MOST_BOTTOM" (.int 10000))))]))], [true]⟩
def D_things_in_two (c_is_word_of c_is_cut c_parted c_is_fine c_things_in_sign : Nat) : FnI := ⟨4, 8, [(.ifs (.or (.cmp .ne (.blt .len [(.var 0)]) (.lit (.int 4))) (.or (.not (.call c_is_word_of [(.ix (.var 0) (.lit (.int 0))), (.glb "WORDS" (.tuple [(.str "across"), (.str "down")]))])) (.not (.call c_is_cut [(.ix (.var 0) (.lit (.int 1)))])))) [(.ret (.lit .none))] []), (.asg (.tup [(.name 4), (.name 5)]) (.call c_parted [(.var 1), (.ix (.var 0) (.lit (.int 0))), (.ix (.var 0) (.lit (.int 1)))])), (.ifs (.or (.not (.call c_is_fine [(.var 4)])) (.not (.call c_is_fine [(.var 5)]))) [(.ret (.lit .none))] []), (.asg (.name 6) (.call c_things_in_sign [(.ix (.var 0) (.lit (.int 2))), (.var 4), (.bin .sub (.var 2) (.lit (.int 1))), (.bin .add (.var 3) (.lit (.int 1)))])), (.ifs (.isN (.var 6)) [(.ret (.lit .none))] []), (.asg (.name 7) (.call c_things_in_sign [(.ix (.var 0) (.lit (.int 3))), (.var 5), (.bin .sub (.var 2) (.var 6)), (.bin .add (.var 3) (.lit (.int 1)))])), (.ret (.ife (.isN (.var 7)) (.lit .none) (.bin .add (.var 6) (.var 7))))], [true, true, true, true]⟩
def D_things_in_sign (c_is_row c_is_word_of c_is_name c_things_in_two c_things_in_sign : Nat) : FnI := ⟨4, 5, [(.ifs (.or (.cmp .lt (.var 2) (.lit (.int 1))) (.or (.cmp .gt (.var 3) (.glb "MOST_DEEP" (.int 12))) (.not (.call c_is_row [(.var 0), (.lit (.int 2)), (.lit (.int 4))])))) [(.ret (.lit .none))] []), (.ifs (.call c_is_word_of [(.ix (.var 0) (.lit (.int 0))), (.tup [(.lit (.str "part"))])]) [(.ret (.ife (.and (.cmp .eq (.blt .len [(.var 0)]) (.lit (.int 2))) (.call c_is_name [(.ix (.var 0) (.lit (.int 1)))])) (.lit (.int 1)) (.lit .none)))] []), (.ifs (.not (.call c_is_word_of [(.ix (.var 0) (.lit (.int 0))), (.tup [(.lit (.str "within"))])])) [(.ret (.call c_things_in_two [(.var 0), (.var 1), (.var 2), (.var 3)]))] []), (.ifs (.or (.cmp .ne (.blt .len [(.var 0)]) (.lit (.int 3))) (.not (.call c_is_name [(.ix (.var 0) (.lit (.int 1)))]))) [(.ret (.lit .none))] []), (.asg (.name 4) (.call c_things_in_sign [(.ix (.var 0) (.lit (.int 2))), (.glb "WHOLE_BOX" (.tuple [(.tuple [(.int 0), (.int 1)]), (.tuple [(.int 1), (.int 1)]), (.tuple [(.int 0), (.int 1)]), (.tuple [(.int 1), (.int 1)])])), (.bin .sub (.var 2) (.lit (.int 1))), (.bin .add (.var 3) (.lit (.int 1)))])), (.ret (.ife (.isN (.var 4)) (.lit .none) (.bin .add (.var 4) (.lit (.int 1)))))], [true, true, true, true]⟩
def D_is_sign_form (c_things_in_sign : Nat) : FnI := ⟨1, 1, [(.ret (.notN (.call c_things_in_sign [(.var 0), (.glb "WHOLE_BOX" (.tuple [(.tuple [(.int 0), (.int 1)]), (.tuple [(.int 1), (.int 1)]), (.tuple [(.int 0), (.int 1)]), (.tuple [(.int 1), (.int 1)])])), (.glb "MOST_THINGS" (.int 12)), (.lit (.int 1))])))], [true]⟩
def D_need_sign (c_is_sign_form k_BadSign : Nat) : FnI := ⟨1, 1, [(.ifs (.not (.call c_is_sign_form [(.var 0)])) [(.raise k_BadSign [])] [])], [true]⟩
def D_is_sign (c_is_sign_form : Nat) : FnI := ⟨1, 1, [(.ret (.call c_is_sign_form [(.var 0)]))], [true]⟩
def D_size_of (c_need_sign c_size_in : Nat) : FnI := ⟨1, 1, [(.expr (.call c_need_sign [(.var 0)])), (.ret (.call c_size_in [(.var 0)]))], [true]⟩
def D_depth_of (c_need_sign c_depth_in : Nat) : FnI := ⟨1, 1, [(.expr (.call c_need_sign [(.var 0)])), (.ret (.call c_depth_in [(.var 0)]))], [true]⟩
def D__law_deep_one : FnI := ⟨1, 2, [(.forr (.name 1) (.rng [(.lit (.int 26))]) [(.asg (.name 0) (.lst [(.tup [(.var 0)])]))]), (.ret (.tup [(.var 0), (.lit (.int 7))]))], [false]⟩
def D__law_one (c__law_draw : Nat) : FnI := ⟨2, 2, [(.ret (.ix (.var 1) (.call c__law_draw [(.var 0), (.blt .len [(.var 1)])])))], [true, true]⟩
def D__law_mixed (c__law_draw : Nat) : FnI := ⟨2, 5, [(.par [2, 3] [(.blt .list [(.var 1)]), (.lst [])]), (.forr (.name 4) (.rng [(.blt .len [(.var 1)])]) [(.app 3 (.pop 2 [(.call c__law_draw [(.var 0), (.blt .len [(.var 2)])])]))]), (.ret (.var 3))], [true, true]⟩
def D__law_least : FnI := ⟨2, 4, [(.par [2, 3] [(.ife (.cmp .gt (.var 0) (.lit (.int 0))) (.var 0) (.bin .sub (.lit (.int 0)) (.var 0))), (.var 1)]), (.whl (.cmp .gt (.var 3) (.lit (.int 0))) [(.par [2, 3] [(.var 3), (.bin .mod (.blt .int [(.var 2)]) (.var 3))])]), (.ret (.tup [(.bin .fdiv (.var 0) (.var 2)), (.bin .fdiv (.var 1) (.var 2))]))], [true, true]⟩
def D__law_below : FnI := ⟨2, 2, [(.ret (.cmp .lt (.bin .mul (.ix (.var 0) (.lit (.int 0))) (.ix (.var 1) (.lit (.int 1)))) (.bin .mul (.ix (.var 1) (.lit (.int 0))) (.ix (.var 0) (.lit (.int 1))))))], [true, true]⟩
def D__law_plus (c__law_least : Nat) : FnI := ⟨2, 2, [(.ret (.call c__law_least [(.bin .add (.bin .mul (.ix (.var 0) (.lit (.int 0))) (.ix (.var 1) (.lit (.int 1)))) (.bin .mul (.ix (.var 1) (.lit (.int 0))) (.ix (.var 0) (.lit (.int 1))))), (.bin .mul (.ix (.var 0) (.lit (.int 1))) (.ix (.var 1) (.lit (.int 1))))]))], [true, true]⟩
def D__law_times (c__law_least : Nat) : FnI := ⟨2, 2, [(.ret (.call c__law_least [(.bin .mul (.ix (.var 0) (.lit (.int 0))) (.ix (.var 1) (.lit (.int 0)))), (.bin .mul (.ix (.var 0) (.lit (.int 1))) (.ix (.var 1) (.lit (.int 1))))]))], [true, true]⟩
def D__law_gap (c__law_least : Nat) : FnI := ⟨2, 2, [(.ret (.call c__law_least [(.bin .sub (.bin .mul (.ix (.var 1) (.lit (.int 0))) (.ix (.var 0) (.lit (.int 1)))) (.bin .mul (.ix (.var 0) (.lit (.int 0))) (.ix (.var 1) (.lit (.int 1))))), (.bin .mul (.ix (.var 0) (.lit (.int 1))) (.ix (.var 1) (.lit (.int 1))))]))], [true, true]⟩
def D__law_stroke (c__law_draw c__law_least c__law_one : Nat) : FnI := ⟨1, 4, [(.asg (.name 1) (.lst [])), (.forr (.name 2) (.rng [(.bin .add (.lit (.int 2)) (.call c__law_draw [(.var 0), (.lit (.int 3))]))]) [(.app 1 (.blt .tuple [(.lc (.name 3) [3] (.rng [(.lit (.int 2))]) [] (.call c__law_least [(.call c__law_draw [(.var 0), (.lit (.int 5))]), (.lit (.int 4))]))]))]), (.ret (.tup [(.call c__law_one [(.var 0), (.lst [(.lit (.str "line")), (.lit (.str "dot")), (.lit (.str "hook")), (.lit (.str "s1"))])]), (.blt .tuple [(.var 1)])]))], [true]⟩
def D__law_stock (c__law_mixed c__law_draw c__law_one c__law_stroke : Nat) : FnI := ⟨1, 8, [(.asg (.name 1) (.call c__law_mixed [(.var 0), (.lst [(.lit (.str "a")), (.lit (.str "a1")), (.lit (.str "b")), (.lit (.str "b9")), (.lit (.str "c")), (.lit (.str "zz")), (.lit (.str "q1w2e3r4"))])])), (.par [2, 3] [(.lst []), (.lst [])]), (.forr (.name 4) (.rng [(.bin .add (.lit (.int 2)) (.call c__law_draw [(.var 0), (.lit (.int 4))]))]) [(.app 2 (.tup [(.pop 1 []), (.call c__law_one [(.var 0), (.lst [(.lit (.str "k")), (.lit (.str "k2")), (.lit (.str "a"))])]), (.blt .tuple [(.lc (.name 5) [5] (.rng [(.bin .add (.lit (.int 1)) (.call c__law_draw [(.var 0), (.lit (.int 2))]))]) [] (.call c__law_stroke [(.var 0)]))])]))]), (.forr (.name 4) (.rng [(.call c__law_draw [(.var 0), (.lit (.int 3))])]) [(.asg (.name 6) (.blt .tuple [(.lc (.name 5) [5] (.rng [(.bin .add (.lit (.int 1)) (.call c__law_draw [(.var 0), (.lit (.int 3))]))]) [] (.call c__law_stroke [(.var 0)]))])), (.asg (.name 7) (.call c__law_one [(.var 0), (.lst [(.tup [(.tup [(.lit (.int 1)), (.lit (.int 4))]), (.tup [(.lit (.int 3)), (.lit (.int 4))]), (.tup [(.lit (.int 1)), (.lit (.int 4))]), (.tup [(.lit (.int 3)), (.lit (.int 4))])]), (.tup [(.tup [(.lit (.int 0)), (.lit (.int 1))]), (.tup [(.lit (.int 1)), (.lit (.int 1))]), (.tup [(.lit (.int 1)), (.lit (.int 3))]), (.tup [(.lit (.int 1)), (.lit (.int 1))])]), (.tup [(.tup [(.lit (.int 1)), (.lit (.int 2))]), (.tup [(.lit (.int 1)), (.lit (.int 1))]), (.tup [(.lit (.int 0)), (.lit (.int 1))]), (.tup [(.lit (.int 1)), (.lit (.int 2))])])])])), (.app 3 (.tup [(.bin .add (.lit (.str "f")) (.blt .str [(.var 4)])), (.call c__law_one [(.var 0), (.lst [(.lit (.str "k")), (.lit (.str "k2")), (.lit (.str "fr"))])]), (.var 6), (.var 7), (.call c__law_draw [(.var 0), (.bin .add (.blt .len [(.var 6)]) (.lit (.int 1)))])]))]), (.ret (.tup [(.blt .tuple [(.var 2)]), (.blt .tuple [(.var 3)])]))], [true]⟩
def D__law_sign (c__law_sign_framed c__law_sign_size : Nat) : FnI := ⟨3, 4, [(.asg (.name 3) (.call c__law_sign_framed [(.var 0), (.var 1), (.var 2)])), (.ret (.ife (.cmp .lt (.call c__law_sign_size [(.var 3)]) (.lit (.int 13))) (.var 3) (.call c__law_sign_framed [(.var 0), (.tup [(.ix (.var 1) (.lit (.int 0))), (.tup [])]), (.var 2)])))], [true, true, true]⟩
def D__law_sign_size (c__law_sign_size : Nat) : FnI := ⟨1, 1, [(.ifs (.cmp .eq (.ix (.var 0) (.lit (.int 0))) (.lit (.str "part"))) [(.ret (.lit (.int 1)))] []), (.ret (.ife (.cmp .eq (.ix (.var 0) (.lit (.int 0))) (.lit (.str "within"))) (.bin .add (.lit (.int 1)) (.call c__law_sign_size [(.ix (.var 0) (.lit (.int 2)))])) (.bin .add (.call c__law_sign_size [(.ix (.var 0) (.lit (.int 2)))]) (.call c__law_sign_size [(.ix (.var 0) (.lit (.int 3)))]))))], [true]⟩
def D__law_sign_framed (c__law_draw c__law_one c__law_bare : Nat) : FnI := ⟨3, 3, [(.ifs (.and (.cmp .ne (.ix (.var 1) (.lit (.int 1))) (.tup [])) (.cmp .eq (.call c__law_draw [(.var 0), (.ife (.cmp .eq (.var 2) (.lit (.int 4))) (.lit (.int 3)) (.lit (.int 6)))]) (.lit (.int 0)))) [(.ret (.tup [(.lit (.str "within")), (.ix (.call c__law_one [(.var 0), (.ix (.var 1) (.lit (.int 1)))]) (.lit (.int 0))), (.call c__law_bare [(.var 0), (.var 1), (.var 2)])]))] []), (.ret (.call c__law_bare [(.var 0), (.var 1), (.var 2)]))], [true, true, true]⟩
def D__law_bare (c__law_draw c__law_one c__law_crossed c__law_sign_framed : Nat) : FnI := ⟨3, 6, [(.ifs (.and (.cmp .lt (.var 2) (.lit (.int 3))) (.and (.cmp .ne (.ix (.var 1) (.lit (.int 1))) (.tup [])) (.cmp .eq (.call c__law_draw [(.var 0), (.lit (.int 12))]) (.lit (.int 0))))) [(.ret (.tup [(.lit (.str "within")), (.ix (.call c__law_one [(.var 0), (.ix (.var 1) (.lit (.int 1)))]) (.lit (.int 0))), (.tup [(.lit (.str "part")), (.ix (.call c__law_one [(.var 0), (.ix (.var 1) (.lit (.int 0)))]) (.lit (.int 0)))])]))] []), (.ifs (.cmp .lt (.var 2) (.lit (.int 2))) [(.ret (.tup [(.lit (.str "part")), (.ix (.call c__law_one [(.var 0), (.ix (.var 1) (.lit (.int 0)))]) (.lit (.int 0)))]))] []), (.ifs (.and (.cmp .eq (.var 2) (.lit (.int 4))) (.cmp .eq (.call c__law_draw [(.var 0), (.lit (.int 2))]) (.lit (.int 0)))) [(.ret (.call c__law_crossed [(.var 0), (.lc (.name 3) [3] (.rng [(.lit (.int 4))]) [] (.call c__law_sign_framed [(.var 0), (.var 1), (.lit (.int 1))]))]))] []), (.asg (.name 4) (.bin .add (.lit (.int 1)) (.call c__law_draw [(.var 0), (.bin .sub (.var 2) (.lit (.int 1)))]))), (.asg (.name 5) (.call c__law_one [(.var 0), (.lst [(.tup [(.lit (.int 1)), (.lit (.int 2))]), (.tup [(.lit (.int 1)), (.lit (.int 2))]), (.tup [(.lit (.int 1)), (.lit (.int 3))]), (.tup [(.lit (.int 2)), (.lit (.int 3))]), (.tup [(.lit (.int 1)), (.lit (.int 4))])])])), (.ret (.tup [(.call c__law_one [(.var 0), (.lst [(.lit (.str "across")), (.lit (.str "down"))])]), (.var 5), (.call c__law_sign_framed [(.var 0), (.var 1), (.var 4)]), (.call c__law_sign_framed [(.var 0), (.var 1), (.bin .sub (.var 2) (.var 4))])]))], [true, true, true]⟩
def D__law_crossed (c__law_one : Nat) : FnI := ⟨2, 6, [(.par [2, 3] [(.call c__law_one [(.var 0), (.lst [(.tup [(.lit (.int 1)), (.lit (.int 2))]), (.tup [(.lit (.int 1)), (.lit (.int 3))])])]), (.call c__law_one [(.var 0), (.lst [(.tup [(.lit (.int 1)), (.lit (.int 2))]), (.tup [(.lit (.int 2)), (.lit (.int 3))])])])]), (.asg (.tup [(.name 4), (.name 5)]) (.call c__law_one [(.var 0), (.lst [(.tup [(.lit (.str "across")), (.lit (.str "down"))]), (.tup [(.lit (.str "down")), (.lit (.str "across"))])])])), (.ret (.tup [(.var 4), (.var 2), (.tup [(.var 5), (.var 3), (.ix (.var 1) (.lit (.int 0))), (.ix (.var 1) (.lit (.int 1)))]), (.tup [(.var 5), (.var 3), (.ix (.var 1) (.lit (.int 2))), (.ix (.var 1) (.lit (.int 3)))])]))], [true, true]⟩
def D__law_is_int : FnI := ⟨1, 1, [(.ret (.and (.isi (.var 0) .int) (.not (.isi (.var 0) .bool))))], [true]⟩
def D__law_is_name : FnI := ⟨1, 2, [(.ifs (.or (.not (.isi (.var 0) .str)) (.or (.cmp .lt (.blt .len [(.var 0)]) (.lit (.int 1))) (.or (.cmp .gt (.blt .len [(.var 0)]) (.lit (.int 8))) (.cmp .nin (.ix (.var 0) (.lit (.int 0))) (.lit (.str "abcdefghijklmnopqrstuvwxyz")))))) [(.ret (.lit (.bool false)))] []), (.ret (.cmp .eq (.lc (.name 1) [1] (.val (.var 0)) [(.cmp .nin (.var 1) (.lit (.str "abcdefghijklmnopqrstuvwxyz0123456789")))] (.var 1)) (.lst [])))], [true]⟩
def D__law_is_fraction (c__law_is_int c__law_least : Nat) : FnI := ⟨1, 2, [(.ifs (.or (.not (.isi (.var 0) .tuple)) (.or (.cmp .ne (.blt .len [(.var 0)]) (.lit (.int 2))) (.cmp .inn (.lit (.bool false)) (.lc (.name 1) [1] (.val (.var 0)) [] (.call c__law_is_int [(.var 1)]))))) [(.ret (.lit (.bool false)))] []), (.ret (.and (.cmp .gt (.ix (.var 0) (.lit (.int 1))) (.lit (.int 0))) (.cmp .eq (.call c__law_least [(.ix (.var 0) (.lit (.int 0))), (.ix (.var 0) (.lit (.int 1)))]) (.var 0))))], [true]⟩
def D__law_halves (c__law_plus c__law_times c__law_gap : Nat) : FnI := ⟨3, 5, [(.asg (.name 3) (.ife (.cmp .eq (.var 1) (.lit (.str "across"))) (.lit (.int 0)) (.lit (.int 2)))), (.asg (.name 4) (.call c__law_plus [(.ix (.var 0) (.var 3)), (.call c__law_times [(.call c__law_gap [(.ix (.var 0) (.var 3)), (.ix (.var 0) (.bin .add (.var 3) (.lit (.int 1))))]), (.var 2)])])), (.ifs (.cmp .eq (.var 3) (.lit (.int 0))) [(.ret (.tup [(.bin .add (.bin .add (.slc (.var 0) none (some (.lit (.int 1)))) (.tup [(.var 4)])) (.slc (.var 0) (some (.lit (.int 2))) none)), (.bin .add (.tup [(.var 4)]) (.slc (.var 0) (some (.lit (.int 1))) none))]))] []), (.ret (.tup [(.bin .add (.slc (.var 0) none (some (.lit (.int 3)))) (.tup [(.var 4)])), (.bin .add (.bin .add (.slc (.var 0) none (some (.lit (.int 2)))) (.tup [(.var 4)])) (.slc (.var 0) (some (.lit (.int 3))) none))]))], [true, true, true]⟩
def D__law_things (c__law_is_name c__law_things c__law_is_fraction c__law_halves : Nat) : FnI := ⟨4, 10, [(.ifs (.or (.not (.isi (.var 0) .tuple)) (.or (.cmp .lt (.blt .len [(.var 0)]) (.lit (.int 2))) (.or (.cmp .lt (.var 2) (.lit (.int 1))) (.or (.cmp .gt (.var 3) (.lit (.int 12))) (.not (.isi (.ix (.var 0) (.lit (.int 0))) .str)))))) [(.ret (.lit .none))] []), (.ifs (.cmp .eq (.ix (.var 0) (.lit (.int 0))) (.lit (.str "part"))) [(.ret (.ife (.and (.cmp .eq (.blt .len [(.var 0)]) (.lit (.int 2))) (.call c__law_is_name [(.ix (.var 0) (.lit (.int 1)))])) (.lit (.int 1)) (.lit .none)))] []), (.ifs (.cmp .eq (.ix (.var 0) (.lit (.int 0))) (.lit (.str "within"))) [(.ifs (.or (.cmp .ne (.blt .len [(.var 0)]) (.lit (.int 3))) (.not (.call c__law_is_name [(.ix (.var 0) (.lit (.int 1)))]))) [(.ret (.lit .none))] []), (.asg (.name 4) (.call c__law_things [(.ix (.var 0) (.lit (.int 2))), (.tup [(.tup [(.lit (.int 0)), (.lit (.int 1))]), (.tup [(.lit (.int 1)), (.lit (.int 1))]), (.tup [(.lit (.int 0)), (.lit (.int 1))]), (.tup [(.lit (.int 1)), (.lit (.int 1))])]), (.bin .sub (.var 2) (.lit (.int 1))), (.bin .add (.var 3) (.lit (.int 1)))])), (.ret (.ife (.isN (.var 4)) (.lit .none) (.bin .add (.var 4) (.lit (.int 1)))))] []), (.ifs (.or (.cmp .ne (.blt .len [(.var 0)]) (.lit (.int 4))) (.or (.cmp .nin (.ix (.var 0) (.lit (.int 0))) (.tup [(.lit (.str "across")), (.lit (.str "down"))])) (.or (.not (.call c__law_is_fraction [(.ix (.var 0) (.lit (.int 1)))])) (.not (.chain .lt .lt (.lit (.int 0)) (.ix (.ix (.var 0) (.lit (.int 1))) (.lit (.int 0))) (.ix (.ix (.var 0) (.lit (.int 1))) (.lit (.int 1)))))))) [(.ret (.lit .none))] []), (.par [5, 6] [(.lit (.int 0)), (.call c__law_halves [(.var 1), (.ix (.var 0) (.lit (.int 0))), (.ix (.var 0) (.lit (.int 1)))])]), (.forr (.name 7) (.rng [(.lit (.int 2))]) [(.ifs (.cmp .ne (.lc (.name 8) [8] (.val (.ix (.var 6) (.var 7))) [(.cmp .gt (.ix (.var 8) (.lit (.int 1))) (.lit (.int 10000)))] (.var 8)) (.lst [])) [(.ret (.lit .none))] []), (.asg (.name 9) (.call c__law_things [(.ix (.var 0) (.bin .add (.lit (.int 2)) (.var 7))), (.ix (.var 6) (.var 7)), (.bin .sub (.var 2) (.var 5)), (.bin .add (.var 3) (.lit (.int 1)))])), (.ifs (.isN (.var 9)) [(.ret (.lit .none))] []), (.asg (.name 5) (.bin .add (.var 5) (.var 9)))]), (.ret (.var 5))], [true, true, true, true]⟩
def D__law_is_sign (c__law_things : Nat) : FnI := ⟨1, 1, [(.ret (.notN (.call c__law_things [(.var 0), (.tup [(.tup [(.lit (.int 0)), (.lit (.int 1))]), (.tup [(.lit (.int 1)), (.lit (.int 1))]), (.tup [(.lit (.int 0)), (.lit (.int 1))]), (.tup [(.lit (.int 1)), (.lit (.int 1))])]), (.lit (.int 12)), (.lit (.int 1))])))], [true]⟩
def D__law_tower (c__law_one c__law_draw : Nat) : FnI := ⟨3, 8, [(.par [3, 4, 5] [(.tup [(.lit (.str "part")), (.call c__law_one [(.var 0), (.lst [(.lit (.str "a")), (.lit (.str "b9")), (.lit (.str "part"))])])]), (.lit (.int 1)), (.lit (.int 1))]), (.whl (.and (.cmp .lt (.var 5) (.var 1)) (.cmp .lt (.var 4) (.var 2))) [(.asg (.name 6) (.call c__law_draw [(.var 0), (.lit (.int 3))])), (.ifs (.cmp .eq (.var 6) (.lit (.int 0))) [(.asg (.name 3) (.tup [(.lit (.str "within")), (.call c__law_one [(.var 0), (.lst [(.lit (.str "f")), (.lit (.str "within"))])]), (.var 3)]))] [(.asg (.name 7) (.lst [(.var 3), (.tup [(.lit (.str "part")), (.call c__law_one [(.var 0), (.lst [(.lit (.str "a")), (.lit (.str "c"))])])])])), (.asg (.name 7) (.ife (.cmp .eq (.call c__law_draw [(.var 0), (.lit (.int 2))]) (.lit (.int 0))) (.var 7) (.rev (.var 7)))), (.asg (.name 3) (.tup [(.ix (.lst [(.lit (.str "across")), (.lit (.str "down"))]) (.bin .sub (.var 6) (.lit (.int 1)))), (.tup [(.lit (.int 1)), (.lit (.int 2))]), (.ix (.var 7) (.lit (.int 0))), (.ix (.var 7) (.lit (.int 1)))]))]), (.par [4, 5] [(.bin .add (.var 4) (.lit (.int 1))), (.bin .add (.var 5) (.lit (.int 1)))])]), (.ret (.var 3))], [true, true, true]⟩
def D__law_fine (c__law_one c__law_draw c__law_least : Nat) : FnI := ⟨1, 7, [(.asg (.name 1) (.call c__law_one [(.var 0), (.lst [(.tup [(.lit (.int 100)), (.lit (.int 100))]), (.tup [(.lit (.int 100)), (.lit (.int 101))]), (.tup [(.lit (.int 2)), (.lit (.int 5000))]), (.tup [(.lit (.int 3)), (.lit (.int 3333))]), (.tup [(.lit (.int 3)), (.lit (.int 3334))]), (.tup [(.lit (.int 73)), (.lit (.int 137))]), (.tup [(.lit (.int 99)), (.lit (.int 101))]), (.tup [(.lit (.int 5)), (.lit (.int 2000))]), (.tup [(.lit (.int 7)), (.lit (.int 1428))]), (.tup [(.lit (.int 1)), (.lit (.int 10000))]), (.tup [(.lit (.int 1)), (.lit (.int 10001))])])])), (.par [2, 3] [(.call c__law_one [(.var 0), (.lst [(.lit (.int 1)), (.bin .sub (.ix (.var 1) (.lit (.int 0))) (.lit (.int 1)))])]), (.call c__law_one [(.var 0), (.lst [(.lit (.int 1)), (.bin .sub (.ix (.var 1) (.lit (.int 1))) (.lit (.int 1))), (.bin .add (.lit (.int 1)) (.call c__law_draw [(.var 0), (.bin .sub (.ix (.var 1) (.lit (.int 1))) (.lit (.int 1)))]))])])]), (.asg (.name 4) (.call c__law_one [(.var 0), (.lst [(.lit (.str "across")), (.lit (.str "down"))])])), (.asg (.name 5) (.tup [(.var 4), (.call c__law_least [(.var 3), (.ix (.var 1) (.lit (.int 1)))]), (.tup [(.lit (.str "part")), (.lit (.str "a"))]), (.tup [(.lit (.str "part")), (.lit (.str "b"))])])), (.asg (.name 6) (.lst [(.var 5), (.tup [(.lit (.str "part")), (.lit (.str "c"))])])), (.asg (.name 6) (.ife (.cmp .eq (.call c__law_draw [(.var 0), (.lit (.int 2))]) (.lit (.int 0))) (.var 6) (.rev (.var 6)))), (.ifs (.cmp .gt (.ix (.var 1) (.lit (.int 0))) (.lit (.int 1))) [(.asg (.name 5) (.tup [(.var 4), (.call c__law_least [(.blt .max [(.lit (.int 1)), (.var 2)]), (.ix (.var 1) (.lit (.int 0)))]), (.ix (.var 6) (.lit (.int 0))), (.ix (.var 6) (.lit (.int 1)))]))] []), (.ifs (.cmp .eq (.call c__law_draw [(.var 0), (.lit (.int 4))]) (.lit (.int 0))) [(.asg (.name 5) (.tup [(.var 4), (.tup [(.lit (.int 9999)), (.lit (.int 10000))]), (.tup [(.var 4), (.call c__law_one [(.var 0), (.lst [(.tup [(.lit (.int 10000)), (.lit (.int 29997))]), (.tup [(.lit (.int 1)), (.lit (.int 9999))]), (.tup [(.lit (.int 1)), (.lit (.int 2))]), (.tup [(.lit (.int 1)), (.lit (.int 3))]), (.tup [(.lit (.int 20000)), (.lit (.int 29997))])])]), (.tup [(.lit (.str "part")), (.lit (.str "a"))]), (.tup [(.lit (.str "part")), (.lit (.str "b"))])]), (.tup [(.lit (.str "part")), (.lit (.str "c"))])]))] []), (.ret (.ife (.cmp .eq (.call c__law_draw [(.var 0), (.lit (.int 5))]) (.lit (.int 0))) (.tup [(.lit (.str "within")), (.lit (.str "f")), (.var 5)]) (.var 5)))], [true]⟩
def D__law_any_sign (c__law_draw c__law_tower c__law_fine c__law_stock c__law_sign c__law_is_sign c__law_bare : Nat) : FnI := ⟨1, 4, [(.asg (.name 1) (.call c__law_draw [(.var 0), (.lit (.int 4))])), (.ifs (.cmp .eq (.var 1) (.lit (.int 0))) [(.ret (.call c__law_tower [(.var 0), (.lit (.int 12)), (.lit (.int 12))]))] []), (.ifs (.cmp .eq (.var 1) (.lit (.int 1))) [(.ret (.call c__law_fine [(.var 0)]))] []), (.asg (.name 2) (.call c__law_stock [(.var 0)])), (.asg (.name 3) (.call c__law_sign [(.var 0), (.var 2), (.bin .add (.lit (.int 1)) (.call c__law_draw [(.var 0), (.lit (.int 8))]))])), (.ret (.ife (.call c__law_is_sign [(.var 3)]) (.var 3) (.call c__law_bare [(.var 0), (.tup [(.ix (.var 2) (.lit (.int 0))), (.tup [])]), (.lit (.int 12))])))], [true]⟩
def D__law_bent (c__law_draw c__law_bent c__law_one : Nat) : FnI := ⟨2, 5, [(.ifs (.and (.isi (.var 1) .tuple) (.and (.cmp .ne (.var 1) (.tup [])) (.cmp .gt (.call c__law_draw [(.var 0), (.lit (.int 5))]) (.lit (.int 0))))) [(.asg (.name 2) (.call c__law_draw [(.var 0), (.blt .len [(.var 1)])])), (.ret (.bin .add (.bin .add (.slc (.var 1) none (some (.var 2))) (.tup [(.call c__law_bent [(.var 0), (.ix (.var 1) (.var 2))])])) (.slc (.var 1) (some (.bin .add (.var 2) (.lit (.int 1)))) none)))] []), (.asg (.name 3) (.lst [(.lit .none), (.lit (.bool true)), (.lit (.bool false)), (.lst [(.var 1)]), (.tup [(.var 1)]), (.lit (.int 0)), (.lit (.str "")), (.dic false []), (.lst []), (.tup [])])), (.ifs (.isi (.var 1) .tuple) [(.asg (.name 3) (.bin .add (.var 3) (.bin .mul (.lst [(.blt .list [(.var 1)]), (.slc (.var 1) none (some (.neg (.lit (.int 1))))), (.slc (.var 1) (some (.lit (.int 1))) none), (.bin .add (.var 1) (.slc (.var 1) (some (.neg (.lit (.int 1)))) none)), (.rev (.var 1)), (.bin .add (.var 1) (.tup [(.lit .none)]))]) (.lit (.int 3)))))] [(.ifs (.isi (.var 1) .str) [(.asg (.name 3) (.bin .add (.var 3) (.lst [(.meth .upper (.var 1)), (.bin .add (.var 1) (.lit (.str "_"))), (.bin .add (.lit (.str "9")) (.slc (.var 1) (some (.lit (.int 1))) none)), (.bin .add (.var 1) (.lit (.str "abcdefgh"))), (.slc (.var 1) none (some (.neg (.lit (.int 1))))), (.bin .add (.var 1) (.lit (.str " "))), (.lit (.str "abcdefgh")), (.lit (.str "a b")), (.lit (.str "part")), (.lit (.str "within")), (.lit (.str "down"))]))), (.asg (.name 3) (.bin .add (.var 3) (.lc (.name 4) [4] (.val (.lit (.str "-./+~:"))) [] (.bin .add (.bin .add (.lit (.str "a")) (.var 4)) (.lit (.str "b"))))))] [(.asg (.name 3) (.bin .add (.var 3) (.lst [(.bin .sub (.lit (.int 0)) (.var 1)), (.bin .add (.var 1) (.lit (.int 1))), (.bin .sub (.var 1) (.lit (.int 1))), (.bin .mul (.lit (.int 2)) (.var 1)), (.blt .str [(.var 1)]), (.lit (.int 10000)), (.lit (.int 10001)), (.lit (.int 1)), (.bin .pow (.lit (.int 10)) (.lit (.int 20)))])))])]), (.ret (.call c__law_one [(.var 0), (.var 3)]))], [true, true]⟩
def D__law_depth (c__law_depth : Nat) : FnI := ⟨1, 2, [(.ifs (.cmp .eq (.ix (.var 0) (.lit (.int 0))) (.lit (.str "part"))) [(.ret (.lit (.int 1)))] []), (.ret (.bin .add (.lit (.int 1)) (.blt .max [(.lc (.name 1) [1] (.val (.slc (.var 0) (some (.lit (.int 2))) none)) [] (.call c__law_depth [(.var 1)]))])))], [true]⟩
def D__law_far (c__law_least : Nat) : FnI := ⟨2, 2, [(.ret (.call c__law_least [(.bin .mul (.bin .fdiv (.var 1) (.lit (.int 2))) (.lit (.int 10000))), (.bin .mul (.var 1) (.var 0))]))], [true, true]⟩
def D__law_thing_right (c__law_things c_is_sign c_size_of c_depth_of c__law_depth : Nat) : FnI := ⟨1, 4, [(.par [1, 2] [(.blt .repr [(.var 0)]), (.call c__law_things [(.var 0), (.tup [(.tup [(.lit (.int 0)), (.lit (.int 1))]), (.tup [(.lit (.int 1)), (.lit (.int 1))]), (.tup [(.lit (.int 0)), (.lit (.int 1))]), (.tup [(.lit (.int 1)), (.lit (.int 1))])]), (.lit (.int 12)), (.lit (.int 1))])]), (.asg (.name 3) (.notN (.var 2))), (.ifs (.or (.cmp .ne (.blt .repr [(.lst [(.call c_is_sign [(.var 0)]), (.callk c_is_sign [(.var 0)] [0])])]) (.blt .repr [(.lst [(.var 3), (.var 3)])])) (.cmp .ne (.blt .repr [(.var 0)]) (.var 1))) [(.ret (.lit (.bool false)))] []), (.ifs (.and (.var 3) (.cmp .ne (.blt .repr [(.lst [(.call c_size_of [(.var 0)]), (.callk c_size_of [(.var 0)] [0])])]) (.blt .repr [(.lst [(.var 2), (.var 2)])]))) [(.ret (.lit (.bool false)))] []), (.ret (.or (.not (.var 3)) (.cmp .eq (.blt .repr [(.lst [(.call c_depth_of [(.var 0)]), (.callk c_depth_of [(.var 0)] [0])])]) (.blt .repr [(.bin .mul (.lst [(.call c__law_depth [(.var 0)])]) (.lit (.int 2)))]))))], [true]⟩
end Mini
namespace Mini
open PySem L2
/-! ### callees -/
def Fn1 (Φ : Orc) (i : Nat) (P : PyData → Prop) (f : PyData → PyData) : Prop := ∀ d, P d → ∃ ps, Φ i [.dat d] = some (.ret (.dat (f d)) ps)
def Fn2 (Φ : Orc) (i : Nat) (P : PyData → PyData → Prop) (f : PyData → PyData → PyData) : Prop := ∀ d e, P d e → ∃ ps, Φ i [.dat d, .dat e] = some (.ret (.dat (f d e)) ps)
def Fn3 (Φ : Orc) (i : Nat) (P : PyData → PyData → PyData → Prop) (f : PyData → PyData → PyData → PyData) : Prop := ∀ d e g, P d e g → ∃ ps, Φ i [.dat d, .dat e, .dat g] = some (.ret (.dat (f d e g)) ps)
def Fn4 (Φ : Orc) (i : Nat) (P : PyData → PyData → PyData → PyData → Prop) (f : PyData → PyData → PyData → PyData → PyData) : Prop := ∀ d e g h, P d e g h → ∃ ps, Φ i [.dat d, .dat e, .dat g, .dat h] = some (.ret (.dat (f d e g h)) ps)
section
variable {p : Pg} {Φ : Orc} {ρ ρ1 ρ2 ρ3 ρ4 : Env} {a b c e : IE} {i : Nat} {d x y z : PyData}
theorem k1 {P f} (h : Fn1 Φ i P f) (ha : W1 p Φ a ρ x ρ1) (hp : P x) : W1 p Φ (.call i [a]) ρ (f x) ρ1 :=
  let ⟨_, e⟩ := h x hp
  g_call (wa_cons ha wa_nil) e
theorem k2 {P f} (h : Fn2 Φ i P f) (ha : W1 p Φ a ρ x ρ1) (hb : W1 p Φ b ρ1 y ρ2) (hp : P x y) : W1 p Φ (.call i [a, b]) ρ (f x y) ρ2 :=
  let ⟨_, e⟩ := h x y hp
  g_call (wa_cons ha (wa_cons hb wa_nil)) e
theorem k3 {P f} (h : Fn3 Φ i P f) (ha : W1 p Φ a ρ x ρ1) (hb : W1 p Φ b ρ1 y ρ2) (hc : W1 p Φ c ρ2 z ρ3) (hp : P x y z) : W1 p Φ (.call i [a, b, c]) ρ (f x y z) ρ3 :=
  let ⟨_, e⟩ := h x y z hp
  g_call (wa_cons ha (wa_cons hb (wa_cons hc wa_nil))) e
theorem k4 {P f} (h : Fn4 Φ i P f) (ha : W1 p Φ a ρ x ρ1) (hb : W1 p Φ b ρ1 y ρ2) (hc : W1 p Φ c ρ2 z ρ3) (hd : W1 p Φ e ρ3 d ρ4) (hp : P x y z d) : W1 p Φ (.call i [a, b, c, e]) ρ (f x y z d) ρ4 :=
  let ⟨_, e⟩ := h x y z d hp
  g_call (wa_cons ha (wa_cons hb (wa_cons hc (wa_cons hd wa_nil)))) e
theorem rr {dd : FnI} {vs : List Sv} {v : PyData} (hl : vs.length = dd.np) (h : Ht (fun r => ∃ ps, endF dd.kp dd.np r = some (.ret (.dat v) ps)) (evSs p Φ dd.np dd.body (vs.map some ++ List.replicate (dd.nl - dd.np) none))) : ∃ ps, runF p Φ dd vs = some (.ret (.dat v) ps) := by
  unfold runF
  rw [if_pos hl]
  exact h.q
end
/-! ### sizes of things -/
def intOk (i : Int) : Bool := decide (i.natAbs ≤ 2 ^ 100)
def strOkL (x : Str) : Bool := PyData.strOk x && decide (x.length ≤ 100)
mutual
def okD : PyData → Bool
  | .int i => intOk i
  | .str x => strOkL x
  | .list xs => okAll xs
  | .tuple xs => okAll xs
  | .dict kvs => kvs.isEmpty
  | .none => true
  | .bool _ => true
def okAll : List PyData → Bool
  | [] => true
  | x :: xs => okD x && okAll xs
end
theorem okAll_iff : ∀ {xs : List PyData}, okAll xs = true ↔ ∀ x ∈ xs, okD x = true
  | [] => ⟨fun _ _ h => (nomatch h), fun _ => rfl⟩
  | x :: xs => by
    unfold okAll
    rw [Bool.and_eq_true, okAll_iff (xs := xs)]
    exact ⟨fun ⟨h1, h2⟩ y hy => (List.mem_cons.mp hy).elim (fun e => e ▸ h1) (h2 y), fun h => ⟨h x List.mem_cons_self, fun y hy => h y (List.mem_cons_of_mem _ hy)⟩⟩
theorem ok_tup {xs : List PyData} (h : okD (.tuple xs) = true) : ∀ x ∈ xs, okD x = true := okAll_iff.mp (show okAll xs = true by unfold okD at h; exact h)
theorem ok_list {xs : List PyData} (h : okD (.list xs) = true) : ∀ x ∈ xs, okD x = true := okAll_iff.mp (show okAll xs = true by unfold okD at h; exact h)
theorem ok_str {x : Str} (h : okD (.str x) = true) : PyData.strOk x = true ∧ x.length ≤ 100 := by
  unfold okD strOkL at h
  obtain ⟨h1, h2⟩ := Bool.and_eq_true_iff.mp h
  exact ⟨h1, of_decide_eq_true h2⟩
theorem ok_int {i : Int} (h : okD (.int i) = true) : i.natAbs ≤ 2 ^ 100 := by
  unfold okD intOk at h
  exact of_decide_eq_true h
/-! ### kinds -/
def intD : PyData → Bool
  | .int _ => true
  | _ => false
def rowD (lo hi : Int) : PyData → Bool
  | .tuple xs => decide (lo ≤ (xs.length : Int)) && decide ((xs.length : Int) ≤ hi)
  | _ => false
def abc : Str := "abcdefghijklmnopqrstuvwxyz"
def dig : Str := "0123456789"
def inS (c : Nat) (y : Str) : Bool := decide (some c ∈ y.cps.toList.map some)
def nameD : PyData → Bool
  | .str x => (decide (1 ≤ x.length) && decide (x.length ≤ 8)) && (match x.cps.toList with
    | [] => false
    | c :: cs => inS c abc && (c :: cs).all fun c => inS c abc || inS c dig)
  | _ => false
def fracD : PyData → Bool
  | .tuple [.int a, .int b] => decide (0 < b) && decide (((Int.gcd a b : Nat) : Int) = 1)
  | _ => false
section
variable {p : Pg} {Φ : Orc}
theorem is_integer_ok (d : PyData) : ∃ ps, runF p Φ D_is_integer [.dat d] = some (.ret (.dat (.bool (intD d))) ps) := by
  cases d <;> exact ⟨_, rfl⟩
theorem law_is_int_ok (d : PyData) : ∃ ps, runF p Φ D__law_is_int [.dat d] = some (.ret (.dat (.bool (intD d))) ps) := by
  cases d <;> exact ⟨_, rfl⟩
theorem is_row_ok (d : PyData) (lo hi : Int) : ∃ ps, runF p Φ D_is_row [.dat d, .dat (.int lo), .dat (.int hi)] = some (.ret (.dat (.bool (rowD lo hi d))) ps) := by
  cases d with
  | tuple xs => exact rr rfl (h_ret ((g_andT (g_isi (x_var rfl)) rfl).trans (c_lele (x_var rfl) (l_tup (x_var rfl)) (x_var rfl))) ⟨_, rfl⟩)
  | _ => exact ⟨_, rfl⟩
theorem is_word_ok {ws : List Str} (d : PyData) : ∃ ps, runF p Φ D_is_word_of [.dat d, .dat (.tuple (ws.map .str))] = some (.ret (.dat (.bool (match d with
    | .str x => decide (x ∈ ws)
    | _ => false))) ps) := by
  cases d with
  | str x =>
    refine rr rfl (h_ret (d := .bool (decide (x ∈ ws))) ((g_andT (g_isi (x_var rfl)) rfl).trans (g_cmp (x_var rfl) (x_var rfl) ?_)) ⟨_, rfl⟩)
    show (if (flatD (.str x) && (ws.map PyData.str).all flatD) = true then some (inD (.str x) (ws.map .str)) else none) = _
    rw [if_pos (by
      show (true && (ws.map PyData.str).all flatD) = true
      rw [Bool.true_and, List.all_eq_true]
      intro y hy
      obtain ⟨w, _, rfl⟩ := List.mem_map.mp hy
      rfl)]
    congr 1
    unfold inD
    rw [List.any_map]
    induction ws with
    | nil => rfl
    | cons w ws ih =>
      rw [List.any_cons, ih]
      show ((w == x) || decide (x ∈ ws)) = decide (x ∈ w :: ws)
      by_cases e : w = x
      · subst e
        rw [beq_self_eq_true, Bool.true_or, decide_eq_true List.mem_cons_self]
      · rw [show (w == x) = false from beq_eq_false_iff_ne.mpr e, Bool.false_or]
        refine decide_eq_decide.mpr ⟨List.mem_cons_of_mem _, fun h => (List.mem_cons.mp h).elim (fun z => absurd z.symm e) id⟩
  | _ => exact ⟨_, rfl⟩
/-- a sign among signs -/
theorem x_inS {a b : IE} {ρ : Env} {c : Nat} {y : Str} (ha : V1 p Φ a ρ (.str ⟨#[c]⟩)) (hb : V1 p Φ b ρ (.str y)) : V1 p Φ (.cmp .inn a b) ρ (.bool (inS c y)) := g_cmp ha hb rfl
theorem x_ninS {a b : IE} {ρ : Env} {c : Nat} {y : Str} (ha : V1 p Φ a ρ (.str ⟨#[c]⟩)) (hb : V1 p Φ b ρ (.str y)) : V1 p Φ (.cmp .nin a b) ρ (.bool (!inS c y)) := g_cmp ha hb rfl
theorem x_first {a : IE} {ρ : Env} {x : Str} {c : Nat} {cs : List Nat} (ha : V1 p Φ a ρ (.str x)) (hf : x.length ≤ 1000000) (hx : x.cps.toList = c :: cs) : V1 p Φ (.ix a (.lit (.int 0))) ρ (.str ⟨#[c]⟩) := by
  refine x_ix ha x_lit ?_
  show (if fitN x.length = true then (L2.atI x.cps.toList 0).map fun c => PyData.str ⟨#[c]⟩ else none) = _
  rw [if_pos (show fitN x.length = true from decide_eq_true hf), hx, atI_nat (v := 0) (by omega) (by rw [List.length_cons]; omega)]
  rfl
theorem len_cps {x : Str} : x.length = x.cps.toList.length := by
  show x.cps.size = _
  rw [Array.length_toList]
theorem is_name_ok (d : PyData) (hd : okD d = true) : ∃ ps, runF p Φ D_is_name [.dat d] = some (.ret (.dat (.bool (nameD d))) ps) := by
  cases d with
  | str x =>
    obtain ⟨_, hl⟩ := ok_str hd
    refine rr rfl ?_
    have ht : V1 p Φ (.or (.not (.isi (.var 0) .str)) (.not (.chain .le .le (.lit (.int 1)) (.blt .len [(.var 0)]) (.glb "MOST_SIGNS" (.int 8))))) [some (.dat (.str x)), none] (.bool !(decide ((1 : Int) ≤ x.length) && decide ((x.length : Int) ≤ 8))) :=
      (g_orF (g_notB (g_isi (x_var rfl))) rfl).trans (g_notB (c_lele x_lit (l_str (x_var rfl) (by omega)) x_glb))
    refine h_if ht (fun h => ?_) fun h => ?_
    · have e : nameD (.str x) = false := by
        show ((decide (1 ≤ x.length) && decide (x.length ≤ 8)) && _) = false
        rw [show (decide (1 ≤ x.length) && decide (x.length ≤ 8)) = (decide ((1 : Int) ≤ x.length) && decide ((x.length : Int) ≤ 8)) by
          congr 1 <;> exact decide_eq_decide.mpr (by omega)]
        rw [Bool.not_eq_true'] at h
        rw [h, Bool.false_and]
      exact h_ret (d := .bool (nameD (.str x))) (by rw [e]; exact x_lit) ⟨_, rfl⟩
    · have h : (decide ((1 : Int) ≤ x.length) && decide ((x.length : Int) ≤ 8)) = true := by
        cases q : (decide ((1 : Int) ≤ x.length) && decide ((x.length : Int) ≤ 8)) with
        | true => rfl
        | false =>
          rw [q] at h
          cases h
      obtain ⟨h1, h2⟩ := Bool.and_eq_true_iff.mp h
      have h1 := of_decide_eq_true h1
      have h2 := of_decide_eq_true h2
      cases hx : x.cps.toList with
      | nil =>
        rw [len_cps, hx] at h1
        exact absurd h1 (by decide)
      | cons c cs =>
        have all : V1 p Φ (.blt .all [(.lc (.name 1) [1] (.val (.var 0)) [] (.or (.cmp .inn (.var 1) (.glb "LETTERS" (.str "abcdefghijklmnopqrstuvwxyz"))) (.cmp .inn (.var 1) (.glb "DIGITS" (.str "0123456789")))))]) [some (.dat (.str x)), none]
            (.bool (((c :: cs).map fun c => PyData.str ⟨#[c]⟩).all fun d => match d with
              | .str ⟨z⟩ => inS (z.getD 0 0) abc || inS (z.getD 0 0) dig
              | _ => false)) :=
          g_all rfl (by rw [← hx]; exact i_str (x_var rfl)) (by rw [List.length_map, ← hx, ← len_cps]; omega) fun w hw => by
            obtain ⟨z, _, rfl⟩ := List.mem_map.mp hw
            exact g_or (x_inS (x_var rfl) x_glb) fun _ => x_inS (x_var rfl) x_glb
        have e : nameD (.str x) = (inS c abc && ((c :: cs).map fun c => PyData.str ⟨#[c]⟩).all fun d => match d with
              | .str ⟨z⟩ => inS (z.getD 0 0) abc || inS (z.getD 0 0) dig
              | _ => false) := by
          show ((decide (1 ≤ x.length) && decide (x.length ≤ 8)) && (match x.cps.toList with
            | [] => false
            | c :: cs => inS c abc && (c :: cs).all fun c => inS c abc || inS c dig)) = _
          rw [hx, decide_eq_true (show 1 ≤ x.length by omega), decide_eq_true (show x.length ≤ 8 by omega), List.all_map]
          rfl
        exact h_ret (d := .bool (nameD (.str x))) (by rw [e]; exact g_and (x_inS (x_first (x_var rfl) (by omega) hx) x_glb) fun _ => all) ⟨_, rfl⟩
  | _ => exact ⟨_, rfl⟩
end
end Mini
namespace Mini
open PySem L2
/-! ### fractions -/
def fq (x : Int × Int) : PyData := .tuple [.int x.1, .int x.2]
def lq (t b : Int) : Int × Int := (t.fdiv ((Int.gcd t b : Nat) : Int), b.fdiv ((Int.gcd t b : Nat) : Int))
def plq (x y : Int × Int) : Int × Int := lq (x.1 * y.2 + y.1 * x.2) (x.2 * y.2)
def miq (x y : Int × Int) : Int × Int := lq (x.1 * y.2 - y.1 * x.2) (x.2 * y.2)
def tiq (x y : Int × Int) : Int × Int := lq (x.1 * y.1) (x.2 * y.2)
def btq (l h c : Int × Int) : Int × Int := plq l (tiq (miq h l) c)
structure Sz (k n : Nat) (x : Int × Int) : Prop where
  t : x.1.natAbs ≤ 2 ^ k
  p : 0 < x.2
  b : x.2.natAbs ≤ 2 ^ n
theorem pow_le {k n : Nat} (h : k ≤ n) : 2 ^ k ≤ 2 ^ n := Nat.pow_le_pow_right (by omega) h
theorem Sz.up {k n k' n' : Nat} {x : Int × Int} (h : Sz k n x) (hk : k ≤ k') (hn : n ≤ n') : Sz k' n' x := ⟨Nat.le_trans h.t (pow_le hk), h.p, Nat.le_trans h.b (pow_le hn)⟩
theorem gcd_pos {t b : Int} (hb : 0 < b) : 0 < Int.gcd t b := Nat.gcd_pos_of_pos_right _ (by omega)
theorem gcd_le {t b : Int} (hb : 0 < b) : Int.gcd t b ≤ b.natAbs := Nat.gcd_le_right _ (by omega)
theorem lq_sz {k n : Nat} {t b : Int} (ht : t.natAbs ≤ 2 ^ k) (hb : 0 < b) (hn : b.natAbs ≤ 2 ^ n) : Sz k n (lq t b) := by
  have g0 := gcd_pos (t := t) hb
  have e1 : t.fdiv ((Int.gcd t b : Nat) : Int) = t / ((Int.gcd t b : Nat) : Int) := Int.fdiv_eq_ediv_of_nonneg _ (by omega)
  have e2 : b.fdiv ((Int.gcd t b : Nat) : Int) = b / ((Int.gcd t b : Nat) : Int) := Int.fdiv_eq_ediv_of_nonneg _ (by omega)
  have d1 := Int.natAbs_ediv_of_dvd (Int.gcd_dvd_left t b)
  have d2 := Int.natAbs_ediv_of_dvd (Int.gcd_dvd_right t b)
  rw [Int.natAbs_natCast] at d1 d2
  refine ⟨?_, ?_, ?_⟩
  · show (t.fdiv _).natAbs ≤ _
    rw [e1, d1]
    exact Nat.le_trans (Nat.div_le_self _ _) ht
  · show 0 < b.fdiv _
    rw [e2]
    have h1 : 0 < b.natAbs / Int.gcd t b := Nat.div_pos (gcd_le hb) g0
    have h2 : 0 ≤ b / ((Int.gcd t b : Nat) : Int) := Int.ediv_nonneg (by omega) (by omega)
    omega
  · show (b.fdiv _).natAbs ≤ _
    rw [e2, d2]
    exact Nat.le_trans (Nat.div_le_self _ _) hn
theorem mulp {x y : Int} {k n : Nat} (hx : x.natAbs ≤ 2 ^ k) (hy : y.natAbs ≤ 2 ^ n) : (x * y).natAbs ≤ 2 ^ (k + n) := by
  have := mul_bd hx hy
  rwa [← Nat.pow_add] at this
theorem plq_sz {k n k' n' m : Nat} {x y : Int × Int} (hx : Sz k n x) (hy : Sz k' n' y) (h1 : k + n' ≤ m) (h2 : k' + n ≤ m) : Sz (m + 1) (n + n') (plq x y) := by
  have a1 := Nat.le_trans (mulp hx.t hy.b) (pow_le h1)
  have a2 := Nat.le_trans (mulp hy.t hx.b) (pow_le h2)
  have e : 2 ^ (m + 1) = 2 * 2 ^ m := Nat.pow_succ'
  exact lq_sz (by omega) (Int.mul_pos hx.p hy.p) (mulp hx.b hy.b)
theorem miq_sz {k n k' n' m : Nat} {x y : Int × Int} (hx : Sz k n x) (hy : Sz k' n' y) (h1 : k + n' ≤ m) (h2 : k' + n ≤ m) : Sz (m + 1) (n + n') (miq x y) := by
  have a1 := Nat.le_trans (mulp hx.t hy.b) (pow_le h1)
  have a2 := Nat.le_trans (mulp hy.t hx.b) (pow_le h2)
  have e : 2 ^ (m + 1) = 2 * 2 ^ m := Nat.pow_succ'
  exact lq_sz (by omega) (Int.mul_pos hx.p hy.p) (mulp hx.b hy.b)
theorem tiq_sz {k n k' n' : Nat} {x y : Int × Int} (hx : Sz k n x) (hy : Sz k' n' y) : Sz (k + k') (n + n') (tiq x y) :=
  lq_sz (mulp hx.t hy.t) (Int.mul_pos hx.p hy.p) (mulp hx.b hy.b)
section
variable {p : Pg} {Φ : Orc}
theorem div_gcd {t b : Int} {n : Nat} (hb : 0 < b) (hn : b.natAbs ≤ 2 ^ n) (h : n ≤ 7000) : divOk ((Int.gcd t b : Nat) : Int) = true := by
  have g0 := gcd_pos (t := t) hb
  refine div_ok (by omega) ?_
  rw [Int.natAbs_natCast]
  exact Nat.le_trans (gcd_le hb) (Nat.le_trans hn (pow_le h))
theorem least_ok {n : Nat} {t b : Int} (hb : 0 < b) (hn : b.natAbs ≤ 2 ^ n) (h : n ≤ 7000) : ∃ ps, runF p Φ D_least [.dat (.int t), .dat (.int b)] = some (.ret (.dat (fq (lq t b))) ps) := by
  have dv := div_gcd (t := t) hb hn h
  refine rr rfl ?_
  refine h_ifF (g_cmp (x_var rfl) x_lit (show some (decide (b < 0)) = _ by rw [decide_eq_false (by omega)])) ?_
  refine h_asg (d := .int ((Int.gcd t b : Nat) : Int)) (g_blt (wa_cons (x_var rfl) (wa_cons (x_var rfl) wa_nil)) rfl) ?_
  exact h_ret (g_tup (wa_cons (g_fdiv (x_var rfl) (x_var rfl) dv) (wa_cons (g_fdiv (x_var rfl) (x_var rfl) dv) wa_nil)) rfl) ⟨_, rfl⟩
theorem half_mod {x y : Nat} (hy : 0 < y) (h : y < x) : 2 * (x % y) < x := by
  have h1 : y ≤ y * (x / y) := Nat.le_mul_of_pos_right _ (Nat.div_pos (by omega) hy)
  have h2 := Nat.div_add_mod x y
  have h3 := Nat.mod_lt x hy
  omega
theorem law_least_ok {n : Nat} {t b : Int} (hb : 0 < b) (hn : b.natAbs ≤ 2 ^ n) (h : n ≤ 7000) : ∃ ps, runF p Φ D__law_least [.dat (.int t), .dat (.int b)] = some (.ret (.dat (fq (lq t b))) ps) := by
  have dv := div_gcd (t := t) hb hn h
  refine rr rfl ?_
  have habs : W1 p Φ (.ife (.cmp .gt (.var 0) (.lit (.int 0))) (.var 0) (.bin .sub (.lit (.int 0)) (.var 0))) [I t, I b, none, none] (.int (t.natAbs : Int)) [I t, I b, none, none] := by
    refine (g_ife (c_gt (x_var rfl) x_lit) (t := decide (0 < t)) rfl).trans ?_
    by_cases ht : 0 < t
    · rw [decide_eq_true ht, if_pos rfl, show ((t.natAbs : Nat) : Int) = t by omega]
      exact x_var rfl
    · rw [decide_eq_false ht, if_neg Bool.false_ne_true, show ((t.natAbs : Nat) : Int) = 0 - t by omega]
      exact g_sub x_lit (x_var rfl)
  refine h_parD (ds := [.int (t.natAbs : Int), .int b]) (wa_cons habs (wa_cons (x_var rfl) wa_nil)) rfl ?_
  refine h_while (fun m ρ => ∃ x y : Nat, ρ = [I t, I b, I (x : Int), I (y : Int)] ∧ Nat.gcd x y = Int.gcd t b ∧ y ≤ b.natAbs ∧ ((y < x ∧ x * y < 2 ^ m) ∨ m = 2 * n + 1)) (2 * n + 1) (by omega) ⟨t.natAbs, b.natAbs, by rw [show ((b.natAbs : Nat) : Int) = b by omega]; rfl, rfl, Nat.le_refl _, .inr rfl⟩ ?_
  rintro m ρ ⟨x, y, rfl, hg, hyb, hm⟩
  refine ⟨decide (0 < (y : Int)), _, c_gt (x_var rfl) x_lit, fun hq => ?_, fun hq => ?_⟩
  · have hq := of_decide_eq_false hq
    have hy : y = 0 := by omega
    subst hy
    rw [Nat.gcd_zero_right] at hg
    subst hg
    exact h_ret (g_tup (wa_cons (g_fdiv (x_var rfl) (x_var rfl) dv) (wa_cons (g_fdiv (x_var rfl) (x_var rfl) dv) wa_nil)) rfl) ⟨_, rfl⟩
  · have hq := of_decide_eq_true hq
    have hy : 0 < y := by omega
    have m1 : ∃ m', m = m' + 1 := by
      cases m with
      | succ m => exact ⟨m, rfl⟩
      | zero =>
        rcases hm with ⟨h1, h2⟩ | h1
        · have := Nat.mul_pos (show 0 < x by omega) hy
          rw [Nat.pow_zero] at h2
          omega
        · omega
    obtain ⟨m', rfl⟩ := m1
    refine ⟨m', rfl, ?_⟩
    have em : ((x : Int).fmod (y : Int)) = ((x % y : Nat) : Int) := by
      rw [Int.fmod_eq_emod_of_nonneg _ (by omega), Int.natCast_emod]
    refine h_parD (ds := [.int (y : Int), .int ((x % y : Nat) : Int)]) (wa_cons (x_var rfl) (wa_cons (by rw [← em]; exact g_mod (blt_int (x_var rfl)) (x_var rfl) (by omega)) wa_nil)) rfl ?_
    have lt := Nat.mod_lt x hy
    refine h_nil ⟨y, x % y, rfl, by rw [Nat.gcd_comm, ← Nat.gcd_rec, Nat.gcd_comm, hg], by omega, .inl ⟨lt, ?_⟩⟩
    rcases hm with ⟨h1, h2⟩ | h1
    · have h3 := half_mod hy h1
      have h4 : 2 * (y * (x % y)) < 2 * 2 ^ m' := by
        calc 2 * (y * (x % y)) = y * (2 * (x % y)) := by rw [Nat.mul_left_comm]
          _ ≤ y * x := Nat.mul_le_mul_left _ (by omega)
          _ = x * y := Nat.mul_comm _ _
          _ < 2 ^ (m' + 1) := h2
          _ = 2 * 2 ^ m' := Nat.pow_succ'
      omega
    · have e : m' = n + n := by omega
      subst e
      rw [Nat.pow_add]
      calc y * (x % y) < y * y := Nat.mul_lt_mul_of_pos_left lt hy
        _ ≤ 2 ^ n * 2 ^ n := Nat.mul_le_mul (Nat.le_trans hyb hn) (Nat.le_trans hyb hn)
end
/-- a fraction's parts -/
theorem f_top {p : Pg} {Φ : Orc} {ρ : Env} {a : IE} {x : Int × Int} (h : V1 p Φ a ρ (fq x)) : V1 p Φ (.ix a (.lit (.int 0))) ρ (.int x.1) := ix_tup (v := 0) h x_lit rfl rfl
theorem f_bot {p : Pg} {Φ : Orc} {ρ : Env} {a : IE} {x : Int × Int} (h : V1 p Φ a ρ (fq x)) : V1 p Φ (.ix a (.lit (.int 1))) ρ (.int x.2) := ix_tup (v := 1) h x_lit rfl rfl
/-- what least must do -/
def LeastOk (Φ : Orc) (i : Nat) : Prop := ∀ (n : Nat) (t b : Int), 0 < b → b.natAbs ≤ 2 ^ n → n ≤ 7000 → ∃ ps, Φ i [.dat (.int t), .dat (.int b)] = some (.ret (.dat (fq (lq t b))) ps)
def FqOk (Φ : Orc) (i : Nat) (f : Int × Int → Int × Int → Int × Int) : Prop := ∀ (x y : Int × Int), Sz 3000 3000 x → Sz 3000 3000 y → ∃ ps, Φ i [.dat (fq x), .dat (fq y)] = some (.ret (.dat (fq (f x y))) ps)
section
variable {p : Pg} {Φ : Orc} {ρ ρ1 : Env} {a b : IE} {i : Nat} {x y : Int × Int}
theorem k_least (h : LeastOk Φ i) {n : Nat} {s t : Int} (ha : V1 p Φ a ρ (.int s)) (hb : V1 p Φ b ρ (.int t)) (h0 : 0 < t) (hn : t.natAbs ≤ 2 ^ n) (h7 : n ≤ 7000) : V1 p Φ (.call i [a, b]) ρ (fq (lq s t)) :=
  let ⟨_, e⟩ := h n s t h0 hn h7
  g_call (wa_cons ha (wa_cons hb wa_nil)) e
theorem k_fq {f} (h : FqOk Φ i f) (ha : V1 p Φ a ρ (fq x)) (hb : V1 p Φ b ρ (fq y)) (hx : Sz 3000 3000 x) (hy : Sz 3000 3000 y) : V1 p Φ (.call i [a, b]) ρ (fq (f x y)) :=
  let ⟨_, e⟩ := h x y hx hy
  g_call (wa_cons ha (wa_cons hb wa_nil)) e
theorem mul3k {s t : Int} (hs : s.natAbs ≤ 2 ^ 3000) (ht : t.natAbs ≤ 2 ^ 3000) : mulOk s t = true := wide_k hs ht (by omega) (by omega)
theorem plus_ok (h : LeastOk Φ i) (hx : Sz 3000 3000 x) (hy : Sz 3000 3000 y) : ∃ ps, runF p Φ (D_plus i) [.dat (fq x), .dat (fq y)] = some (.ret (.dat (fq (plq x y))) ps) :=
  rr rfl (h_ret (k_least h (n := 6000) (g_add (g_mul (f_top (x_var rfl)) (f_bot (x_var rfl)) (mul3k hx.t hy.b)) (g_mul (f_top (x_var rfl)) (f_bot (x_var rfl)) (mul3k hy.t hx.b))) (g_mul (f_bot (x_var rfl)) (f_bot (x_var rfl)) (mul3k hx.b hy.b)) (Int.mul_pos hx.p hy.p) (mulp hx.b hy.b) (by omega)) ⟨_, rfl⟩)
theorem minus_ok (h : LeastOk Φ i) (hx : Sz 3000 3000 x) (hy : Sz 3000 3000 y) : ∃ ps, runF p Φ (D_minus i) [.dat (fq x), .dat (fq y)] = some (.ret (.dat (fq (miq x y))) ps) :=
  rr rfl (h_ret (k_least h (n := 6000) (g_sub (g_mul (f_top (x_var rfl)) (f_bot (x_var rfl)) (mul3k hx.t hy.b)) (g_mul (f_top (x_var rfl)) (f_bot (x_var rfl)) (mul3k hy.t hx.b))) (g_mul (f_bot (x_var rfl)) (f_bot (x_var rfl)) (mul3k hx.b hy.b)) (Int.mul_pos hx.p hy.p) (mulp hx.b hy.b) (by omega)) ⟨_, rfl⟩)
theorem times_ok (h : LeastOk Φ i) (hx : Sz 3000 3000 x) (hy : Sz 3000 3000 y) : ∃ ps, runF p Φ (D_times i) [.dat (fq x), .dat (fq y)] = some (.ret (.dat (fq (tiq x y))) ps) :=
  rr rfl (h_ret (k_least h (n := 6000) (g_mul (f_top (x_var rfl)) (f_top (x_var rfl)) (mul3k hx.t hy.t)) (g_mul (f_bot (x_var rfl)) (f_bot (x_var rfl)) (mul3k hx.b hy.b)) (Int.mul_pos hx.p hy.p) (mulp hx.b hy.b) (by omega)) ⟨_, rfl⟩)
theorem law_plus_ok (h : LeastOk Φ i) (hx : Sz 3000 3000 x) (hy : Sz 3000 3000 y) : ∃ ps, runF p Φ (D__law_plus i) [.dat (fq x), .dat (fq y)] = some (.ret (.dat (fq (plq x y))) ps) :=
  rr rfl (h_ret (k_least h (n := 6000) (g_add (g_mul (f_top (x_var rfl)) (f_bot (x_var rfl)) (mul3k hx.t hy.b)) (g_mul (f_top (x_var rfl)) (f_bot (x_var rfl)) (mul3k hy.t hx.b))) (g_mul (f_bot (x_var rfl)) (f_bot (x_var rfl)) (mul3k hx.b hy.b)) (Int.mul_pos hx.p hy.p) (mulp hx.b hy.b) (by omega)) ⟨_, rfl⟩)
theorem law_times_ok (h : LeastOk Φ i) (hx : Sz 3000 3000 x) (hy : Sz 3000 3000 y) : ∃ ps, runF p Φ (D__law_times i) [.dat (fq x), .dat (fq y)] = some (.ret (.dat (fq (tiq x y))) ps) :=
  rr rfl (h_ret (k_least h (n := 6000) (g_mul (f_top (x_var rfl)) (f_top (x_var rfl)) (mul3k hx.t hy.t)) (g_mul (f_bot (x_var rfl)) (f_bot (x_var rfl)) (mul3k hx.b hy.b)) (Int.mul_pos hx.p hy.p) (mulp hx.b hy.b) (by omega)) ⟨_, rfl⟩)
/-- the gap from the one to the other -/
theorem law_gap_ok (h : LeastOk Φ i) (hx : Sz 3000 3000 x) (hy : Sz 3000 3000 y) : ∃ ps, runF p Φ (D__law_gap i) [.dat (fq x), .dat (fq y)] = some (.ret (.dat (fq (miq y x))) ps) := by
  have e : miq y x = lq (y.1 * x.2 - x.1 * y.2) (x.2 * y.2) := by
    unfold miq
    rw [Int.mul_comm y.2 x.2]
  rw [e]
  exact rr rfl (h_ret (k_least h (n := 6000) (g_sub (g_mul (f_top (x_var rfl)) (f_bot (x_var rfl)) (mul3k hy.t hx.b)) (g_mul (f_top (x_var rfl)) (f_bot (x_var rfl)) (mul3k hx.t hy.b))) (g_mul (f_bot (x_var rfl)) (f_bot (x_var rfl)) (mul3k hx.b hy.b)) (Int.mul_pos hx.p hy.p) (mulp hx.b hy.b) (by omega)) ⟨_, rfl⟩)
end
end Mini
namespace Mini
open PySem L2
/-! ### boxes -/
structure Bx where
  l : Int × Int
  r : Int × Int
  u : Int × Int
  d : Int × Int
def bxD (b : Bx) : PyData := .tuple [fq b.l, fq b.r, fq b.u, fq b.d]
def whole : Bx := ⟨(0, 1), (1, 1), (0, 1), (1, 1)⟩
def halves (w : Str) (b : Bx) (c : Int × Int) : Bx × Bx :=
  if w = "across" then (⟨b.l, btq b.l b.r c, b.u, b.d⟩, ⟨btq b.l b.r c, b.r, b.u, b.d⟩) else (⟨b.l, b.r, b.u, btq b.u b.d c⟩, ⟨b.l, b.r, btq b.u b.d c, b.d⟩)
def fineB (b : Bx) : Bool := decide (b.l.2 ≤ 10000) && (decide (b.r.2 ≤ 10000) && (decide (b.u.2 ≤ 10000) && decide (b.d.2 ≤ 10000)))
structure BxSz (k : Nat) (b : Bx) : Prop where
  l : Sz k 14 b.l
  r : Sz k 14 b.r
  u : Sz k 14 b.u
  d : Sz k 14 b.d
theorem btq_sz {k : Nat} {l h c : Int × Int} (hl : Sz k 14 l) (hh : Sz k 14 h) (hc : Sz 100 100 c) : Sz (k + 130) 142 (btq l h c) := by
  have h1 : Sz (k + 14 + 1) (14 + 14) (miq h l) := miq_sz hh hl (Nat.le_refl _) (Nat.le_refl _)
  have h2 := tiq_sz h1 hc
  exact plq_sz (m := k + 129) hl (h2.up (k' := k + 115) (n' := 128) (by omega) (by omega)) (by omega) (by omega)
theorem btq_fine {k : Nat} {l h c : Int × Int} (hl : Sz k 14 l) (hh : Sz k 14 h) (hc : Sz 100 100 c) (hf : (btq l h c).2 ≤ 10000) : Sz (k + 130) 14 (btq l h c) := by
  have z := btq_sz hl hh hc
  refine ⟨z.t, z.p, ?_⟩
  have := z.p
  exact Nat.le_trans (show (btq l h c).2.natAbs ≤ 10000 by omega) (by decide)
theorem halves_sz {k : Nat} {w : Str} {b : Bx} {c : Int × Int} (hb : BxSz k b) (hc : Sz 100 100 c) : (fineB (halves w b c).1 = true → BxSz (k + 130) (halves w b c).1) ∧ (fineB (halves w b c).2 = true → BxSz (k + 130) (halves w b c).2) := by
  have ul := hb.l.up (k' := k + 130) (n' := 14) (by omega) (by omega)
  have ur := hb.r.up (k' := k + 130) (n' := 14) (by omega) (by omega)
  have uu := hb.u.up (k' := k + 130) (n' := 14) (by omega) (by omega)
  have ud := hb.d.up (k' := k + 130) (n' := 14) (by omega) (by omega)
  unfold halves fineB
  by_cases hw : w = "across"
  · rw [if_pos hw]
    simp only [Bool.and_eq_true, decide_eq_true_eq]
    exact ⟨fun ⟨_, h, _⟩ => ⟨ul, btq_fine hb.l hb.r hc h, uu, ud⟩, fun ⟨h, _⟩ => ⟨btq_fine hb.l hb.r hc h, ur, uu, ud⟩⟩
  · rw [if_neg hw]
    simp only [Bool.and_eq_true, decide_eq_true_eq]
    exact ⟨fun ⟨_, _, _, h⟩ => ⟨ul, ur, uu, btq_fine hb.u hb.d hc h⟩, fun ⟨_, _, h, _⟩ => ⟨ul, ur, btq_fine hb.u hb.d hc h, ud⟩⟩
/-! ### the law's looks -/
def ctD : PyData → Option (Int × Int)
  | .tuple [.int a, .int b] => if fracD (.tuple [.int a, .int b]) = true ∧ 0 < a ∧ a < b then some (a, b) else none
  | _ => none
def optI : Option Int → PyData
  | none => .none
  | some m => .int m
def lim (room : Int) (o : Option Int) : Option Int := o.bind fun m => if m ≤ room then some m else none
def cnt : Nat → PyData → Bx → Option Int
  | 0, _, _ => none
  | f + 1, .tuple [.str w, nm], b => if w = "part" ∧ nameD nm = true then some 1 else none
  | f + 1, .tuple [.str w, nm, s], b => if w = "within" ∧ nameD nm = true then (cnt f s whole).map (· + 1) else none
  | f + 1, .tuple [.str w, c, s, t], b => if w = "across" ∨ w = "down" then (ctD c).bind fun x =>
      if fineB (halves w b x).1 = true ∧ fineB (halves w b x).2 = true then (cnt f s (halves w b x).1).bind fun m => (cnt f t (halves w b x).2).map fun k => m + k else none
    else none
  | _, _, _ => none
theorem cnt_pos : ∀ {f : Nat} {d : PyData} {b : Bx} {m : Int}, cnt f d b = some m → 1 ≤ m
  | 0, _, _, _, h => by
    unfold cnt at h
    cases h
  | f + 1, d, b, m, h => by
    unfold cnt at h
    split at h
    · cases h
    · split at h
      · cases h
        omega
      · cases h
    · split at h
      · obtain ⟨k, h1, rfl⟩ := Option.map_eq_some_iff.mp h
        have := cnt_pos h1
        omega
      · cases h
    · split at h
      · obtain ⟨x, _, h⟩ := Option.bind_eq_some_iff.mp h
        split at h
        · obtain ⟨k, h1, h⟩ := Option.bind_eq_some_iff.mp h
          obtain ⟨j, h2, rfl⟩ := Option.map_eq_some_iff.mp h
          have := cnt_pos h1
          have := cnt_pos h2
          omega
        · cases h
      · cases h
    · cases h
section
variable {p : Pg} {Φ : Orc}
theorem between_ok {cp ct cm : Nat} {k : Nat} {l h c : Int × Int} (hp : FqOk Φ cp plq) (ht : FqOk Φ ct tiq) (hm : FqOk Φ cm miq) (hl : Sz k 14 l) (hh : Sz k 14 h) (hc : Sz 100 100 c) (hk : k ≤ 2500) :
    ∃ ps, runF p Φ (D_between cp ct cm) [.dat (fq l), .dat (fq h), .dat (fq c)] = some (.ret (.dat (fq (btq l h c))) ps) := by
  have h1 : Sz (k + 14 + 1) (14 + 14) (miq h l) := miq_sz hh hl (Nat.le_refl _) (Nat.le_refl _)
  have h2 := tiq_sz h1 hc
  show ∃ ps, runF p Φ (D_between cp ct cm) [.dat (fq l), .dat (fq h), .dat (fq c)] = some (.ret (.dat (fq (plq l (tiq (miq h l) c)))) ps)
  exact rr rfl (h_ret (k_fq hp (x_var rfl) (k_fq ht (k_fq hm (x_var rfl) (x_var rfl) (hh.up (by omega) (by omega)) (hl.up (by omega) (by omega))) (x_var rfl) (h1.up (by omega) (by omega)) (hc.up (by omega) (by omega))) (hl.up (by omega) (by omega)) (h2.up (by omega) (by omega))) ⟨_, rfl⟩)
def BtwOk (Φ : Orc) (i : Nat) : Prop := ∀ (k : Nat) (l h c : Int × Int), Sz k 14 l → Sz k 14 h → Sz 100 100 c → k ≤ 2500 → ∃ ps, Φ i [.dat (fq l), .dat (fq h), .dat (fq c)] = some (.ret (.dat (fq (btq l h c))) ps)
def prD (x : Bx × Bx) : PyData := .tuple [bxD x.1, bxD x.2]
theorem parted_ok {cb : Nat} {k : Nat} {b : Bx} {w : Str} {c : Int × Int} (hb : BtwOk Φ cb) (hs : BxSz k b) (hc : Sz 100 100 c) (hk : k ≤ 2500) :
    ∃ ps, runF p Φ (D_parted cb) [.dat (bxD b), .dat (.str w), .dat (fq c)] = some (.ret (.dat (prD (halves w b c))) ps) := by
  have kb : ∀ {ρ : Env} {e1 e2 e3 : IE} {l h : Int × Int}, V1 p Φ e1 ρ (fq l) → V1 p Φ e2 ρ (fq h) → V1 p Φ e3 ρ (fq c) → Sz k 14 l → Sz k 14 h → V1 p Φ (.call cb [e1, e2, e3]) ρ (fq (btq l h c)) := fun a1 a2 a3 z1 z2 =>
    let ⟨_, e⟩ := hb k _ _ c z1 z2 hc hk
    g_call (wa_cons a1 (wa_cons a2 (wa_cons a3 wa_nil))) e
  refine rr rfl ?_
  refine h_asgT (ds := [fq b.l, fq b.r, fq b.u, fq b.d]) (x_var rfl) rfl ?_
  refine h_if (c_eqS (x_var rfl) x_lit) (fun h => ?_) (fun h => ?_)
  · have e : halves w b c = (⟨b.l, btq b.l b.r c, b.u, b.d⟩, ⟨btq b.l b.r c, b.r, b.u, b.d⟩) := if_pos (of_decide_eq_true h)
    rw [e]
    refine h_asg (kb (x_var rfl) (x_var rfl) (x_var rfl) hs.l hs.r) ?_
    exact h_ret (g_tup (wa_cons (g_tup (wa_cons (x_var rfl) (wa_cons (x_var rfl) (wa_cons (x_var rfl) (wa_cons (x_var rfl) wa_nil)))) rfl) (wa_cons (g_tup (wa_cons (x_var rfl) (wa_cons (x_var rfl) (wa_cons (x_var rfl) (wa_cons (x_var rfl) wa_nil)))) rfl) wa_nil)) rfl) ⟨_, rfl⟩
  · have e : halves w b c = (⟨b.l, b.r, b.u, btq b.u b.d c⟩, ⟨b.l, b.r, btq b.u b.d c, b.d⟩) := if_neg (of_decide_eq_false h)
    rw [e]
    refine h_asg (kb (x_var rfl) (x_var rfl) (x_var rfl) hs.u hs.d) ?_
    exact h_ret (g_tup (wa_cons (g_tup (wa_cons (x_var rfl) (wa_cons (x_var rfl) (wa_cons (x_var rfl) (wa_cons (x_var rfl) wa_nil)))) rfl) (wa_cons (g_tup (wa_cons (x_var rfl) (wa_cons (x_var rfl) (wa_cons (x_var rfl) (wa_cons (x_var rfl) wa_nil)))) rfl) wa_nil)) rfl) ⟨_, rfl⟩
theorem law_halves_ok {cp ct cm : Nat} {k : Nat} {b : Bx} {w : Str} {c : Int × Int} (hp : FqOk Φ cp plq) (ht : FqOk Φ ct tiq) (hm : FqOk Φ cm fun x y => miq y x) (hs : BxSz k b) (hc : Sz 100 100 c) (hk : k ≤ 2500) :
    ∃ ps, runF p Φ (D__law_halves cp ct cm) [.dat (bxD b), .dat (.str w), .dat (fq c)] = some (.ret (.dat (prD (halves w b c))) ps) := by
  have kb : ∀ {ρ : Env} {e1 e2 e3 e4 : IE} {l h : Int × Int}, V1 p Φ e1 ρ (fq l) → V1 p Φ e2 ρ (fq l) → V1 p Φ e3 ρ (fq h) → V1 p Φ e4 ρ (fq c) → Sz k 14 l → Sz k 14 h → V1 p Φ (.call cp [e1, .call ct [.call cm [e2, e3], e4]]) ρ (fq (plq l (tiq (miq h l) c))) := fun {ρ e1 e2 e3 e4 l h} a1 a2 a3 a4 z1 z2 => by
    have h1 : Sz (k + 14 + 1) (14 + 14) (miq h l) := miq_sz z2 z1 (Nat.le_refl _) (Nat.le_refl _)
    have h2 := tiq_sz h1 hc
    exact k_fq hp a1 (k_fq ht (k_fq (f := fun x y => miq y x) (x := l) (y := h) hm a2 a3 (z1.up (by omega) (by omega)) (z2.up (by omega) (by omega))) a4 (h1.up (by omega) (by omega)) (hc.up (by omega) (by omega))) (z1.up (by omega) (by omega)) (h2.up (by omega) (by omega))
  refine rr rfl ?_
  have hat : W1 p Φ (.ife (.cmp .eq (.var 1) (.lit (.str "across"))) (.lit (.int 0)) (.lit (.int 2))) [some (.dat (bxD b)), some (.dat (.str w)), some (.dat (fq c)), none, none] (.int (if w = "across" then 0 else 2)) [some (.dat (bxD b)), some (.dat (.str w)), some (.dat (fq c)), none, none] := by
    refine (g_ife (c_eqS (x_var rfl) x_lit) rfl).trans ?_
    by_cases hw : w = "across"
    · rw [if_pos hw, if_pos (decide_eq_true hw)]
      exact x_lit
    · rw [if_neg hw, if_neg (by rw [decide_eq_false hw]; exact Bool.false_ne_true)]
      exact x_lit
  refine h_asg hat ?_
  by_cases hw : w = "across"
  · have e : halves w b c = (⟨b.l, btq b.l b.r c, b.u, b.d⟩, ⟨btq b.l b.r c, b.r, b.u, b.d⟩) := if_pos hw
    rw [e, if_pos hw]
    refine h_asg (kb (ix_tup (v := 0) (x_var rfl) (x_var rfl) rfl rfl) (ix_tup (v := 0) (x_var rfl) (x_var rfl) rfl rfl) (ix_tup (v := 1) (x_var rfl) (x_add (x_var rfl) x_lit) rfl rfl) (x_var rfl) hs.l hs.r) ?_
    refine h_ifT (g_cmp (x_var rfl) x_lit rfl) ?_
    exact h_ret rfl ⟨_, rfl⟩
  · have e : halves w b c = (⟨b.l, b.r, b.u, btq b.u b.d c⟩, ⟨b.l, b.r, btq b.u b.d c, b.d⟩) := if_neg hw
    rw [e, if_neg hw]
    refine h_asg (kb (ix_tup (v := 2) (x_var rfl) (x_var rfl) rfl rfl) (ix_tup (v := 2) (x_var rfl) (x_var rfl) rfl rfl) (ix_tup (v := 3) (x_var rfl) (x_add (x_var rfl) x_lit) rfl rfl) (x_var rfl) hs.u hs.d) ?_
    refine h_ifF (g_cmp (x_var rfl) x_lit rfl) ?_
    exact h_ret rfl ⟨_, rfl⟩
theorem is_fine_ok {b : Bx} : ∃ ps, runF p Φ D_is_fine [.dat (bxD b)] = some (.ret (.dat (.bool (fineB b))) ps) := by
  have e : fineB b = [fq b.l, fq b.r, fq b.u, fq b.d].all fun d => match d with
    | .tuple [_, .int n] => decide (n ≤ 10000)
    | _ => false := by
    unfold fineB
    simp only [List.all_cons, List.all_nil, Bool.and_true]
    rfl
  rw [e]
  refine rr rfl (h_ret (g_all rfl (i_tup (x_var rfl)) (by show 4 ≤ 1000000; omega) fun x hx => ?_) ⟨_, rfl⟩)
  simp only [List.mem_cons, List.not_mem_nil, or_false] at hx
  rcases hx with rfl | rfl | rfl | rfl <;> exact c_le (f_bot (x_var rfl)) x_glb
end
end Mini
namespace Mini
open PySem L2
/-! ### callees that tell a bool -/
def B1 (Φ : Orc) (i : Nat) (P : PyData → Prop) (f : PyData → Bool) : Prop := ∀ d, P d → ∃ ps, Φ i [.dat d] = some (.ret (.dat (.bool (f d))) ps)
def RowOk (Φ : Orc) (i : Nat) : Prop := ∀ (d : PyData) (lo hi : Int), ∃ ps, Φ i [.dat d, .dat (.int lo), .dat (.int hi)] = some (.ret (.dat (.bool (rowD lo hi d))) ps)
def wordD (ws : List Str) : PyData → Bool
  | .str x => decide (x ∈ ws)
  | _ => false
def WordOk (Φ : Orc) (i : Nat) : Prop := ∀ (ws : List Str) (d : PyData), ∃ ps, Φ i [.dat d, .dat (.tuple (ws.map .str))] = some (.ret (.dat (.bool (wordD ws d))) ps)
section
variable {p : Pg} {Φ : Orc} {ρ ρ1 ρ2 ρ3 : Env} {a b c : IE} {i : Nat} {x : PyData}
theorem k_b1 {P f} (h : B1 Φ i P f) (ha : W1 p Φ a ρ x ρ1) (hp : P x) : W1 p Φ (.call i [a]) ρ (.bool (f x)) ρ1 :=
  let ⟨_, e⟩ := h x hp
  g_call (wa_cons ha wa_nil) e
theorem k_row {lo hi : Int} (h : RowOk Φ i) (ha : W1 p Φ a ρ x ρ1) (hb : W1 p Φ b ρ1 (.int lo) ρ2) (hc : W1 p Φ c ρ2 (.int hi) ρ3) : W1 p Φ (.call i [a, b, c]) ρ (.bool (rowD lo hi x)) ρ3 :=
  let ⟨_, e⟩ := h x lo hi
  g_call (wa_cons ha (wa_cons hb (wa_cons hc wa_nil))) e
theorem k_word (ws : List Str) (h : WordOk Φ i) (ha : W1 p Φ a ρ x ρ1) (hb : W1 p Φ b ρ1 (.tuple (ws.map .str)) ρ2) : W1 p Φ (.call i [a, b]) ρ (.bool (wordD ws x)) ρ2 :=
  let ⟨_, e⟩ := h ws x
  g_call (wa_cons ha (wa_cons hb wa_nil)) e
end
theorem rowD_true {lo hi : Int} {d : PyData} (h : rowD lo hi d = true) : ∃ xs, d = .tuple xs ∧ lo ≤ (xs.length : Int) ∧ (xs.length : Int) ≤ hi := by
  cases d with
  | tuple xs =>
    obtain ⟨h1, h2⟩ := Bool.and_eq_true_iff.mp (show (decide (lo ≤ (xs.length : Int)) && decide ((xs.length : Int) ≤ hi)) = true from h)
    exact ⟨xs, rfl, of_decide_eq_true h1, of_decide_eq_true h2⟩
  | _ => cases h
theorem intD_true {d : PyData} (h : intD d = true) : ∃ i, d = .int i := by
  cases d with
  | int i => exact ⟨i, rfl⟩
  | _ => cases h
/-- so many ints -/
def rowI (n : Int) (d : PyData) : Bool := rowD n n d && (match d with
  | .tuple xs => xs.all intD
  | _ => false)
theorem rowI2 {d : PyData} (h : rowI 2 d = true) : ∃ a b, d = .tuple [.int a, .int b] := by
  obtain ⟨h1, h2⟩ := Bool.and_eq_true_iff.mp h
  obtain ⟨xs, rfl, h3, h4⟩ := rowD_true h1
  match xs, h3, h4, h2 with
  | [x, y], _, _, h2 =>
    have h2 : [x, y].all intD = true := h2
    simp only [List.all_cons, List.all_nil, Bool.and_true, Bool.and_eq_true] at h2
    obtain ⟨a, rfl⟩ := intD_true h2.1
    obtain ⟨b, rfl⟩ := intD_true h2.2
    exact ⟨a, b, rfl⟩
  | [], h3, _, _ => exact absurd h3 (by decide)
  | [_], h3, _, _ => exact absurd h3 (by simp)
  | _ :: _ :: _ :: _, _, h4, _ =>
    simp only [List.length_cons] at h4
    omega
theorem frac_int {d : PyData} (h : fracD d = true) : rowI 2 d = true := by
  unfold fracD at h
  split at h
  · rfl
  · cases h
section
variable {p : Pg} {Φ : Orc}
theorem are_integers_ok {cr ci : Nat} (hr : RowOk Φ cr) (hi : B1 Φ ci (fun _ => True) intD) (d : PyData) (n : Int) (hd : ∀ xs, d = .tuple xs → xs.length ≤ 1000000) : ∃ ps, runF p Φ (D_are_integers cr ci) [.dat d, .dat (.int n)] = some (.ret (.dat (.bool (rowI n d))) ps) := by
  refine rr rfl ?_
  have h1 : V1 p Φ (.call cr [(.var 0), (.var 1), (.var 1)]) [some (.dat d), I n, none] (.bool (rowD n n d)) := k_row hr (x_var rfl) (x_var rfl) (x_var rfl)
  refine h_ret (d := .bool (rowI n d)) (g_and h1 fun q => ?_) ⟨_, rfl⟩
  obtain ⟨xs, rfl, _, _⟩ := rowD_true q
  exact g_all rfl (i_tup (x_var rfl)) (hd xs rfl) fun x _ => k_b1 hi (x_var rfl) trivial
def AreOk (Φ : Orc) (i : Nat) : Prop := ∀ (d : PyData) (n : Int), (∀ xs, d = .tuple xs → xs.length ≤ 1000000) → ∃ ps, Φ i [.dat d, .dat (.int n)] = some (.ret (.dat (.bool (rowI n d))) ps)
theorem is_fraction_ok {ca : Nat} (ha : AreOk Φ ca) (d : PyData) (hd : ∀ xs, d = .tuple xs → xs.length ≤ 1000000) : ∃ ps, runF p Φ (D_is_fraction ca) [.dat d] = some (.ret (.dat (.bool (fracD d))) ps) := by
  refine rr rfl ?_
  have h1 : V1 p Φ (.call ca [(.var 0), (.lit (.int 2))]) [some (.dat d)] (.bool (rowI 2 d)) := let ⟨_, e⟩ := ha d 2 hd
    g_call (wa_cons (x_var rfl) (wa_cons x_lit wa_nil)) e
  cases q : rowI 2 d with
  | false =>
    have e : fracD d = false := by
      cases z : fracD d with
      | false => rfl
      | true =>
        rw [frac_int z] at q
        cases q
    rw [e]
    rw [q] at h1
    exact h_ret (g_andF h1 rfl) ⟨_, rfl⟩
  | true =>
    obtain ⟨a, b, rfl⟩ := rowI2 q
    rw [q] at h1
    exact h_ret ((g_andT h1 rfl).trans (g_and (c_gt (ix_tup (v := 1) (x_var rfl) x_lit rfl rfl) x_lit) fun _ => c_eqI (g_blt (wa_cons (ix_tup (v := 0) (x_var rfl) x_lit rfl rfl) (wa_cons (ix_tup (v := 1) (x_var rfl) x_lit rfl rfl) wa_nil)) rfl) x_lit)) ⟨_, rfl⟩
theorem shaped_bools {f : PyData → Bool} (xs : List PyData) : shapedD (.list (xs.map fun x => .bool (f x))) = true := by
  have h1 : ∀ xs : List PyData, PyData.canLayAll0 (xs.map fun x => .bool (f x)) = true := by
    intro xs
    induction xs with
    | nil => rfl
    | cons x xs ih =>
      show (true && PyData.canLayAll0 (xs.map fun x => .bool (f x))) = true
      rw [ih]
      rfl
  have h2 : ∀ xs : List PyData, PyData.depthAll (xs.map fun x => .bool (f x)) = 0 := by
    intro xs
    induction xs with
    | nil => rfl
    | cons x xs ih =>
      show max 0 (PyData.depthAll (xs.map fun x => .bool (f x))) = 0
      rw [ih]
      rfl
  show (PyData.canLayAll0 (xs.map fun x => .bool (f x)) && decide (PyData.depthAll (xs.map fun x => .bool (f x)) + 1 ≤ 64)) = true
  rw [h1, h2]
  rfl
theorem any_false {f : PyData → Bool} : ∀ xs : List PyData, inD (.bool false) (xs.map fun x => .bool (f x)) = !(xs.all f)
  | [] => rfl
  | x :: xs => by
    show (PyData.eqv (.bool (f x)) (.bool false) || inD (.bool false) (xs.map fun x => .bool (f x))) = _
    rw [any_false xs, List.all_cons]
    show ((f x == false) || !(xs.all f)) = _
    cases f x <;> rfl
/-- False in [f(v) for v in it] -/
theorem x_false {v : Nat} {it : II} {e : IE} {xs : List PyData} {f : PyData → Bool} {ρ : Env} (hv : ρ[v]? = some none) (hi : evI p Φ it ρ = .ok (xs, none) ρ) (hl : xs.length ≤ 1000000)
    (he : ∀ x ∈ xs, W1 p Φ e (ρ.set v (some (.dat x))) (.bool (f x)) (ρ.set v (some (.dat x)))) : V1 p Φ (.cmp .inn (.lit (.bool false)) (.lc (.name v) [v] it [] e)) ρ (.bool !(xs.all f)) := by
  refine g_cmpR (ra := .val (.dat (.bool false))) x_lit (g_lc0 (g := fun x => .bool (f x)) hv hi rfl hl he) ?_
  show (if (shapedD (.bool false) && shapedD (.list (xs.map fun x => .bool (f x)))) = true then some (inD (.bool false) (xs.map fun x => .bool (f x))) else none) = _
  rw [shaped_bools, if_pos (by rfl)]
  exact congrArg some (any_false xs)
theorem law_is_fraction_ok {ci cl : Nat} (hi : B1 Φ ci (fun _ => True) intD) (hl : LeastOk Φ cl) (d : PyData) (hd : ∀ xs, d = .tuple xs → xs.length ≤ 1000000 ∧ okD (.tuple xs) = true) : ∃ ps, runF p Φ (D__law_is_fraction ci cl) [.dat d] = some (.ret (.dat (.bool (fracD d))) ps) := by
  cases d with
  | tuple xs =>
    refine rr rfl ?_
    have ht : V1 p Φ (.or (.not (.isi (.var 0) .tuple)) (.or (.cmp .ne (.blt .len [(.var 0)]) (.lit (.int 2))) (.cmp .inn (.lit (.bool false)) (.lc (.name 1) [1] (.val (.var 0)) [] (.call ci [(.var 1)]))))) [some (.dat (.tuple xs)), none] (.bool (!decide ((xs.length : Int) = 2) || !(xs.all intD))) :=
      (g_orF (g_notB (g_isi (x_var rfl))) rfl).trans (g_or (c_neI (l_tup (x_var rfl)) x_lit) fun _ => x_false rfl (i_tup (x_var rfl)) (hd xs rfl).1 fun x _ => k_b1 hi (x_var rfl) trivial)
    refine h_if ht (fun h => ?_) fun h => ?_
    · have e : fracD (.tuple xs) = false := by
        cases z : fracD (.tuple xs) with
        | false => rfl
        | true =>
          obtain ⟨a, b, e⟩ := rowI2 (frac_int z)
          cases e
          cases h
      exact h_ret (d := .bool (fracD (.tuple xs))) (by rw [e]; exact x_lit) ⟨_, rfl⟩
    · obtain ⟨h1, h2⟩ := Bool.or_eq_false_iff.mp h
      have h1 : (xs.length : Int) = 2 := by simpa using h1
      have h2 : xs.all intD = true := by simpa using h2
      obtain ⟨a, b, e⟩ := rowI2 (d := .tuple xs) (by
        show (decide ((2 : Int) ≤ (xs.length : Int)) && decide ((xs.length : Int) ≤ 2) && xs.all intD) = true
        rw [h2, decide_eq_true (by omega), decide_eq_true (by omega)]
        rfl)
      cases e
      have hb := ok_int (ok_tup (hd _ rfl).2 (.int b) (List.mem_cons_of_mem _ List.mem_cons_self))
      refine h_ret0 (d := .bool (fracD (.tuple [.int a, .int b]))) ?_ ⟨_, rfl⟩
      show V1 p Φ _ _ (.bool (decide (0 < b) && decide (((Int.gcd a b : Nat) : Int) = 1)))
      refine g_and (c_gt (ix_tup (v := 1) (x_var rfl) x_lit rfl rfl) x_lit) fun hp => ?_
      have hp := of_decide_eq_true hp
      refine g_cmp (k_least hl (n := 100) (ix_tup (v := 0) (x_var rfl) x_lit rfl rfl) (ix_tup (v := 1) (x_var rfl) x_lit rfl rfl) hp hb (by omega)) (x_var rfl) ?_
      show some ((a.fdiv ((Int.gcd a b : Nat) : Int) == a) && ((b.fdiv ((Int.gcd a b : Nat) : Int) == b) && true)) = _
      congr 1
      have g0 := gcd_pos (t := a) hp
      have dg : ((Int.gcd a b : Nat) : Int) ∣ b := Int.gcd_dvd_right a b
      have gp : (0 : Int) < ((Int.gcd a b : Nat) : Int) := by omega
      generalize ((Int.gcd a b : Nat) : Int) = g at *
      by_cases e : g = 1
      · subst e
        rw [Int.fdiv_one, Int.fdiv_one]
        simp
      · rw [decide_eq_false e]
        have : (b.fdiv g == b) = false := by
          rw [beq_eq_false_iff_ne]
          intro z
          obtain ⟨q, rfl⟩ := dg
          rw [Int.fdiv_eq_ediv_of_nonneg _ (by omega), Int.mul_ediv_cancel_left _ (by omega)] at z
          have q0 : q ≠ 0 := fun h => by subst h; simp at hp
          have : (g - 1) * q = 0 := by rw [Int.sub_mul]; omega
          rcases Int.mul_eq_zero.mp this with h | h
          · omega
          · exact q0 h
        rw [this]
        simp
  | _ => exact ⟨_, rfl⟩
end
end Mini
namespace Mini
open PySem L2
section
variable {p : Pg} {Φ : Orc} {ρ ρ1 : Env} {a : IE} {d : PyData}
theorem g_isN (h : W1 p Φ a ρ d ρ1) : W1 p Φ (.isN a) ρ (.bool (noneD d)) ρ1 := by
  show (evE p Φ a ρ).bind _ = _
  rw [h]
  rfl
theorem g_ifeT {b c : IE} {R : Res Rv} (hc : W1 p Φ c ρ (.bool true) ρ1) (h : evE p Φ a ρ1 = R) : evE p Φ (.ife c a b) ρ = R := (g_ife hc rfl).trans h
theorem g_ifeF {b c : IE} {R : Res Rv} (hc : W1 p Φ c ρ (.bool false) ρ1) (h : evE p Φ b ρ1 = R) : evE p Φ (.ife c a b) ρ = R := (g_ife hc rfl).trans h
theorem g_notN (h : W1 p Φ a ρ d ρ1) : W1 p Φ (.notN a) ρ (.bool (!noneD d)) ρ1 := by
  show (evE p Φ a ρ).bind _ = _
  rw [h]
  rfl
end
/-! ### names, by the law -/
def both : Str := "abcdefghijklmnopqrstuvwxyz0123456789"
theorem inS_both (c : Nat) : inS c both = (inS c abc || inS c dig) := by
  have e : both.cps.toList.map some = abc.cps.toList.map some ++ dig.cps.toList.map some := by decide +kernel
  unfold inS
  rw [e]
  by_cases h1 : some c ∈ abc.cps.toList.map some
  · rw [decide_eq_true h1, decide_eq_true (List.mem_append_left _ h1)]
    rfl
  · by_cases h2 : some c ∈ dig.cps.toList.map some
    · rw [decide_eq_true h2, decide_eq_true (List.mem_append_right _ h2), Bool.or_true]
    · rw [decide_eq_false h1, decide_eq_false h2, decide_eq_false fun z => (List.mem_append.mp z).elim h1 h2]
      rfl
def sgD (c : Nat) : PyData := .str ⟨#[c]⟩
theorem shaped_strs {ds : List PyData} (h : ∀ d ∈ ds, ∃ c, d = sgD c ∧ c < 0x110000) : shapedD (.list ds) = true := by
  have h1 : PyData.canLayAll0 ds = true ∧ PyData.depthAll ds = 0 := by
    induction ds with
    | nil => exact ⟨rfl, rfl⟩
    | cons d ds ih =>
      obtain ⟨c, rfl, hc⟩ := h d List.mem_cons_self
      obtain ⟨e1, e2⟩ := ih fun x hx => h x (List.mem_cons_of_mem _ hx)
      refine ⟨?_, ?_⟩
      · show (PyData.strOk ⟨#[c]⟩ && PyData.canLayAll0 ds) = true
        rw [e1, Bool.and_true]
        show (#[c].all (· < 0x110000)) = true
        simp [hc]
      · show max 0 (PyData.depthAll ds) = 0
        rw [e2]
        rfl
  show (PyData.canLayAll0 ds && decide (PyData.depthAll ds + 1 ≤ 64)) = true
  rw [h1.1, h1.2]
  rfl
theorem eqv_nil (ds : List PyData) : PyData.eqv (.list ds) (.list []) = ds.isEmpty := by cases ds <;> rfl
section
variable {p : Pg} {Φ : Orc}
theorem law_is_name_ok (d : PyData) (hd : okD d = true) : ∃ ps, runF p Φ D__law_is_name [.dat d] = some (.ret (.dat (.bool (nameD d))) ps) := by
  cases d with
  | str x =>
    obtain ⟨hs, hl⟩ := ok_str hd
    refine rr rfl ?_
    cases hx : x.cps.toList with
    | nil =>
      have hl0 : x.length = 0 := by rw [len_cps, hx]; rfl
      have e : nameD (.str x) = false := by
        show ((decide (1 ≤ x.length) && decide (x.length ≤ 8)) && _) = false
        rw [decide_eq_false (show ¬ 1 ≤ x.length by omega)]
        rfl
      rw [e]
      refine h_ifT ((g_orF (g_notB (g_isi (x_var rfl))) rfl).trans (g_orT (x := .bool true) (g_cmp (l_str (x_var rfl) (by omega)) x_lit ?_) rfl)) ?_
      · show some (decide ((x.length : Int) < 1)) = some true
        rw [decide_eq_true (by omega)]
      · exact h_ret x_lit ⟨_, rfl⟩
    | cons c cs =>
      have hl1 : 1 ≤ x.length := by rw [len_cps, hx, List.length_cons]; omega
      have ht : V1 p Φ (.or (.not (.isi (.var 0) .str)) (.or (.cmp .lt (.blt .len [(.var 0)]) (.lit (.int 1))) (.or (.cmp .gt (.blt .len [(.var 0)]) (.lit (.int 8))) (.cmp .nin (.ix (.var 0) (.lit (.int 0))) (.lit (.str "abcdefghijklmnopqrstuvwxyz")))))) [some (.dat (.str x)), none]
          (.bool (decide ((x.length : Int) < 1) || (decide ((8 : Int) < x.length) || !inS c abc))) :=
        (g_orF (g_notB (g_isi (x_var rfl))) rfl).trans (g_or (c_lt (l_str (x_var rfl) (by omega)) x_lit) fun _ => g_or (c_gt (l_str (x_var rfl) (by omega)) x_lit) fun _ => x_ninS (x_first (x_var rfl) (by omega) hx) x_lit)
      have en : nameD (.str x) = ((decide (1 ≤ x.length) && decide (x.length ≤ 8)) && (inS c abc && (c :: cs).all fun c => inS c abc || inS c dig)) := by
        show ((decide (1 ≤ x.length) && decide (x.length ≤ 8)) && (match x.cps.toList with
          | [] => false
          | c :: cs => inS c abc && (c :: cs).all fun c => inS c abc || inS c dig)) = _
        rw [hx]
      refine h_if ht (fun h => ?_) fun h => ?_
      · have e : nameD (.str x) = false := by
          rw [en]
          rw [decide_eq_false (show ¬ (x.length : Int) < 1 by omega), Bool.false_or] at h
          by_cases h8 : (8 : Int) < x.length
          · rw [decide_eq_false (show ¬ x.length ≤ 8 by omega), Bool.and_false, Bool.false_and]
          · rw [decide_eq_false h8, Bool.false_or] at h
            have : inS c abc = false := by simpa using h
            rw [this, Bool.false_and, Bool.and_false]
        rw [e]
        exact h_ret x_lit ⟨_, rfl⟩
      · obtain ⟨_, h⟩ := Bool.or_eq_false_iff.mp h
        obtain ⟨h8, h3⟩ := Bool.or_eq_false_iff.mp h
        have h8 := of_decide_eq_false h8
        have h3 : inS c abc = true := by simpa using h3
        have hall : ∀ z ∈ c :: cs, z < 0x110000 := fun z hz => by
          have : x.cps.all (· < 0x110000) = true := hs
          rw [← hx] at hz
          rw [← Array.all_toList, List.all_eq_true] at this
          simpa using this z hz
        have hlc : evE p Φ (.lc (.name 1) [1] (.val (.var 0)) [(.cmp .nin (.var 1) (.lit (.str "abcdefghijklmnopqrstuvwxyz0123456789")))] (.var 1)) [some (.dat (.str x)), none] = .ok (.val (.own (.lst ((((c :: cs).map sgD).filter fun d => match d with
            | .str ⟨z⟩ => !inS (z.getD 0 0) both
            | _ => false).map id)))) [some (.dat (.str x)), none] :=
          g_lc (g := id) rfl (by rw [← hx]; exact i_str (x_var rfl)) rfl (by rw [List.length_map, ← hx, ← len_cps]; omega) (fun w hw => by
            obtain ⟨z, _, rfl⟩ := List.mem_map.mp hw
            exact evC1 (x_ninS (x_var rfl) x_lit)) fun w _ _ => x_var rfl
        refine h_ret0 (d := .bool (nameD (.str x))) (g_cmpR hlc (x_lst va_nil rfl) ?_) ⟨_, rfl⟩
        show (if (shapedD (.list _) && shapedD (.list [])) = true then some (PyData.eqv (.list _) (.list [])) else none) = _
        rw [List.map_id]
        rw [shaped_strs (fun d hd => by
          obtain ⟨z, hz, rfl⟩ := List.mem_map.mp (List.mem_filter.mp hd).1
          exact ⟨z, rfl, hall z hz⟩), if_pos (by rfl), eqv_nil, en, decide_eq_true (show 1 ≤ x.length by omega), decide_eq_true (show x.length ≤ 8 by omega), h3]
        congr 1
        have go : ∀ l : List Nat, ((l.map sgD).filter fun d => match d with
            | .str ⟨z⟩ => !inS (z.getD 0 0) both
            | _ => false).isEmpty = l.all fun c => inS c abc || inS c dig := by
          intro l
          induction l with
          | nil => rfl
          | cons z l ih =>
            rw [List.map_cons, List.all_cons, List.filter_cons, ← inS_both z]
            show (if (!inS z both) = true then sgD z :: _ else _ : List PyData).isEmpty = _
            cases inS z both with
            | true =>
              rw [if_neg (by decide), ih]
              rfl
            | false =>
              rw [if_pos (by rfl)]
              rfl
        rw [go (c :: cs)]
        rfl
  | _ => exact ⟨_, rfl⟩
theorem ctD_some {d : PyData} {c : Int × Int} (h : ctD d = some c) : d = fq c ∧ fracD d = true ∧ 0 < c.1 ∧ c.1 < c.2 := by
  unfold ctD at h
  split at h
  · split at h
    · rename_i hh
      cases h
      exact ⟨rfl, hh.1, hh.2.1, hh.2.2⟩
    · cases h
  · cases h
theorem is_cut_ok {cf : Nat} (hf : B1 Φ cf (fun d => okD d = true) fracD) (d : PyData) (hd : okD d = true) : ∃ ps, runF p Φ (D_is_cut cf) [.dat d] = some (.ret (.dat (.bool (ctD d).isSome)) ps) := by
  refine rr rfl ?_
  have h1 : V1 p Φ (.call cf [(.var 0)]) [some (.dat d)] (.bool (fracD d)) := k_b1 hf (x_var rfl) hd
  cases q : fracD d with
  | false =>
    have e : ctD d = none := by
      cases z : ctD d with
      | none => rfl
      | some c =>
        rw [(ctD_some z).2.1] at q
        cases q
    rw [e]
    rw [q] at h1
    exact h_ret (g_andF h1 rfl) ⟨_, rfl⟩
  | true =>
    obtain ⟨a, b, rfl⟩ := rowI2 (frac_int q)
    rw [q] at h1
    have e : (ctD (.tuple [.int a, .int b])).isSome = (decide (0 < a) && decide (a < b)) := by
      show (if fracD (.tuple [.int a, .int b]) = true ∧ 0 < a ∧ a < b then some (a, b) else none).isSome = _
      by_cases h2 : 0 < a ∧ a < b
      · rw [if_pos ⟨q, h2⟩, decide_eq_true h2.1, decide_eq_true h2.2]
        rfl
      · rw [if_neg fun z => h2 z.2]
        by_cases h3 : 0 < a
        · rw [decide_eq_true h3, decide_eq_false fun z => h2 ⟨h3, z⟩]
          rfl
        · rw [decide_eq_false h3]
          rfl
    rw [e]
    exact h_ret0 ((g_andT h1 rfl).trans (c_ltlt x_lit (ix_tup (v := 0) (x_var rfl) x_lit rfl rfl) (ix_tup (v := 1) (x_var rfl) x_lit rfl rfl))) ⟨_, rfl⟩
/-! ### the two halves -/
def cntTwo (f : Nat) (xs : List PyData) (b : Bx) : Option Int := match xs with
  | [.str w, c, s, t] => if w = "across" ∨ w = "down" then (ctD c).bind fun x =>
      if fineB (halves w b x).1 = true ∧ fineB (halves w b x).2 = true then (cnt f s (halves w b x).1).bind fun m => (cnt f t (halves w b x).2).map fun k => m + k else none
    else none
  | _ => none
theorem cntTwo_some {f : Nat} {xs : List PyData} {b : Bx} {m : Int} (h : cntTwo f xs b = some m) : ∃ w c s t q, xs = [.str w, c, s, t] ∧ (w = "across" ∨ w = "down") ∧ ctD c = some q := by
  unfold cntTwo at h
  split at h
  · rename_i w c s t
    split at h
    · rename_i hw
      obtain ⟨q, hq, _⟩ := Option.bind_eq_some_iff.mp h
      exact ⟨w, c, s, t, q, rfl, hw, hq⟩
    · cases h
  · cases h
theorem lim_none (room : Int) : lim room none = none := rfl
theorem lim_two {room : Int} {A B : Option Int} (hB : ∀ k, B = some k → 1 ≤ k) : lim room (A.bind fun m => B.map fun k => m + k) = (lim (room - 1) A).bind fun m => (lim (room - m) B).map fun k => m + k := by
  cases A with
  | none => rfl
  | some m =>
    cases B with
    | none =>
      show none = (if m ≤ room - 1 then some m else none).bind fun m => none
      split <;> rfl
    | some k =>
      have := hB k rfl
      show (if m + k ≤ room then some (m + k) else none) = (if m ≤ room - 1 then some m else none).bind fun m => (if k ≤ room - m then some k else none).map fun k => m + k
      by_cases h1 : m ≤ room - 1
      · rw [if_pos h1]
        show _ = (if k ≤ room - m then some k else none).map fun k => m + k
        by_cases h2 : k ≤ room - m
        · rw [if_pos h2, if_pos (by omega)]
          rfl
        · rw [if_neg h2, if_neg (by omega)]
          rfl
      · rw [if_neg h1, if_neg (by omega)]
        rfl
theorem lim_twoL {room : Int} {A B : Option Int} (hB : ∀ k, B = some k → 1 ≤ k) : lim room (A.bind fun m => B.map fun k => m + k) = (lim room A).bind fun m => (lim (room - m) B).map fun k => m + k := by
  cases A with
  | none => rfl
  | some m =>
    cases B with
    | none =>
      show none = (if m ≤ room then some m else none).bind fun m => none
      split <;> rfl
    | some k =>
      have := hB k rfl
      show (if m + k ≤ room then some (m + k) else none) = (if m ≤ room then some m else none).bind fun m => (if k ≤ room - m then some k else none).map fun k => m + k
      by_cases h1 : m ≤ room
      · rw [if_pos h1]
        show _ = (if k ≤ room - m then some k else none).map fun k => m + k
        by_cases h2 : k ≤ room - m
        · rw [if_pos h2, if_pos (by omega)]
          rfl
        · rw [if_neg h2, if_neg (by omega)]
          rfl
      · rw [if_neg h1, if_neg (by omega)]
        rfl
def ThOk (Φ : Orc) (i f k : Nat) : Prop := ∀ (s : PyData) (b : Bx) (room : Int), okD s = true → BxSz k b → ∃ ps, Φ i [.dat s, .dat (bxD b), .dat (.int room), .dat (.int (13 - (f : Int)))] = some (.ret (.dat (optI (lim room (cnt f s b)))) ps)
def PartOk (Φ : Orc) (i : Nat) : Prop := ∀ (k : Nat) (b : Bx) (w : Str) (c : Int × Int), BxSz k b → Sz 100 100 c → k ≤ 2500 → ∃ ps, Φ i [.dat (bxD b), .dat (.str w), .dat (fq c)] = some (.ret (.dat (prD (halves w b c))) ps)
def FineOk (Φ : Orc) (i : Nat) : Prop := ∀ b : Bx, ∃ ps, Φ i [.dat (bxD b)] = some (.ret (.dat (.bool (fineB b))) ps)
theorem k_th {i f k : Nat} {ρ : Env} {e1 e2 e3 e4 : IE} {s : PyData} {b : Bx} {room deep : Int} (h : ThOk Φ i f k) (h1 : V1 p Φ e1 ρ s) (h2 : V1 p Φ e2 ρ (bxD b)) (h3 : V1 p Φ e3 ρ (.int room)) (h4 : V1 p Φ e4 ρ (.int deep)) (hd : deep = 13 - (f : Int)) (ho : okD s = true) (hb : BxSz k b) :
    V1 p Φ (.call i [e1, e2, e3, e4]) ρ (optI (lim room (cnt f s b))) := by
  subst hd
  obtain ⟨_, e⟩ := h s b room ho hb
  exact g_call (wa_cons h1 (wa_cons h2 (wa_cons h3 (wa_cons h4 wa_nil)))) e
theorem ct_sz {d : PyData} {c : Int × Int} (h : ctD d = some c) (hd : okD d = true) : Sz 100 100 c := by
  obtain ⟨rfl, h1, h2, h3⟩ := ctD_some h
  have a1 := ok_int (ok_tup hd (.int c.1) List.mem_cons_self)
  have a2 := ok_int (ok_tup hd (.int c.2) (List.mem_cons_of_mem _ List.mem_cons_self))
  exact ⟨a1, by omega, a2⟩
theorem wordD_in {ws : List Str} {d : PyData} (h : wordD ws d = true) : ∃ w, d = .str w ∧ w ∈ ws := by
  cases d with
  | str w => exact ⟨w, rfl, of_decide_eq_true h⟩
  | _ => cases h
theorem two_ok {cw cc cp cf ct f k : Nat} {x0 x1 : PyData} {rest : List PyData} {b : Bx} {room deep : Int} (hw : WordOk Φ cw) (hc : B1 Φ cc (fun d => okD d = true) fun d => (ctD d).isSome) (hp : PartOk Φ cp) (hf : FineOk Φ cf) (ht : ThOk Φ ct f (k + 130))
    (ho : okD (.tuple (x0 :: x1 :: rest)) = true) (hb : BxSz k b) (hk : k ≤ 2300) (hd : deep + 1 = 13 - (f : Int)) :
    ∃ ps, runF p Φ (D_things_in_two cw cc cp cf ct) [.dat (.tuple (x0 :: x1 :: rest)), .dat (bxD b), .dat (.int room), .dat (.int deep)] = some (.ret (.dat (optI (lim room (cntTwo f (x0 :: x1 :: rest) b)))) ps) := by
  have hok := ok_tup ho
  refine rr rfl ?_
  have h1 : V1 p Φ (.or (.cmp .ne (.blt .len [(.var 0)]) (.lit (.int 4))) (.or (.not (.call cw [(.ix (.var 0) (.lit (.int 0))), (.glb "WORDS" (.tuple [(.str "across"), (.str "down")]))])) (.not (.call cc [(.ix (.var 0) (.lit (.int 1)))])))) [some (.dat (.tuple (x0 :: x1 :: rest))), some (.dat (bxD b)), I room, I deep, none, none, none, none]
      (.bool (!decide (((x0 :: x1 :: rest).length : Int) = 4) || (!wordD ["across", "down"] x0 || !(ctD x1).isSome))) :=
    g_or (c_neI (l_tup (x_var rfl)) x_lit) fun _ => g_or (g_notB (k_word ["across", "down"] hw (ix_tup (v := 0) (x_var rfl) x_lit rfl rfl) x_glb)) fun _ => g_notB (k_b1 hc (ix_tup (v := 1) (x_var rfl) x_lit rfl rfl) (hok x1 (by simp)))
  refine h_if h1 (fun h => ?_) fun h => ?_
  · have e : cntTwo f (x0 :: x1 :: rest) b = none := by
      cases hz : cntTwo f (x0 :: x1 :: rest) b with
      | none => rfl
      | some m =>
        obtain ⟨w, c, s, t, q, e1, e2, e3⟩ := cntTwo_some hz
        cases e1
        have h : (!wordD ["across", "down"] (.str w) || !(ctD x1).isSome) = false.not := h
        have e4 : wordD ["across", "down"] (.str w) = true := decide_eq_true (by simpa using e2)
        rw [e4, e3] at h
        cases h
    rw [e, lim_none]
    exact h_ret x_lit ⟨_, rfl⟩
  · obtain ⟨h2, h⟩ := Bool.or_eq_false_iff.mp h
    obtain ⟨h3, h4⟩ := Bool.or_eq_false_iff.mp h
    have h2 : (((x0 :: x1 :: rest).length : Nat) : Int) = 4 := by simpa using h2
    have h3 : wordD ["across", "down"] x0 = true := by simpa using h3
    obtain ⟨w, rfl, hw2⟩ := wordD_in h3
    have hw3 : w = "across" ∨ w = "down" := by simpa using hw2
    cases hcx : ctD x1 with
    | none =>
      rw [hcx] at h4
      cases h4
    | some c =>
      obtain ⟨rfl, _⟩ := ctD_some hcx
      match rest, h2 with
      | [s, t], _ =>
        have hcs := ct_sz hcx (hok _ (by simp))
        have hs := hok s (by simp)
        have htt := hok t (by simp)
        have eC : cntTwo f [.str w, fq c, s, t] b = if fineB (halves w b c).1 = true ∧ fineB (halves w b c).2 = true then (cnt f s (halves w b c).1).bind fun m => (cnt f t (halves w b c).2).map fun k => m + k else none := by
          show (if w = "across" ∨ w = "down" then (ctD (fq c)).bind (fun x => if fineB (halves w b x).1 = true ∧ fineB (halves w b x).2 = true then (cnt f s (halves w b x).1).bind fun m => (cnt f t (halves w b x).2).map fun k => m + k else none) else none) = _
          rw [if_pos hw3, hcx]
          rfl
        rw [eC]
        refine h_asgT (ds := [bxD (halves w b c).1, bxD (halves w b c).2]) (let ⟨_, e⟩ := hp k b w c hb hcs (by omega)
          g_call (wa_cons (x_var rfl) (wa_cons (ix_tup (v := 0) (x_var rfl) x_lit rfl rfl) (wa_cons (ix_tup (v := 1) (x_var rfl) x_lit rfl rfl) wa_nil))) e) rfl ?_
        have kf : ∀ {ρ : Env} {e : IE} {b : Bx}, V1 p Φ e ρ (bxD b) → V1 p Φ (.call cf [e]) ρ (.bool (fineB b)) := fun {ρ e b} q =>
          let ⟨_, z⟩ := hf b
          g_call (wa_cons q wa_nil) z
        refine h_if (g_or (g_notB (kf (x_var rfl))) fun _ => g_notB (kf (x_var rfl))) (fun q => ?_) fun q => ?_
        · rw [if_neg (fun z => by rw [z.1, z.2] at q; cases q), lim_none]
          exact h_ret x_lit ⟨_, rfl⟩
        · obtain ⟨q1, q2⟩ := Bool.or_eq_false_iff.mp q
          have q1 : fineB (halves w b c).1 = true := by simpa using q1
          have q2 : fineB (halves w b c).2 = true := by simpa using q2
          have z1 := (halves_sz (w := w) hb hcs).1 q1
          have z2 := (halves_sz (w := w) hb hcs).2 q2
          rw [if_pos ⟨q1, q2⟩, lim_two fun k h => cnt_pos h]
          refine h_asg (k_th ht (ix_tup (v := 2) (x_var rfl) x_lit rfl rfl) (x_var rfl) (x_sub (x_var rfl) x_lit) (x_add (x_var rfl) x_lit) hd hs z1) ?_
          cases hA : lim (room - 1) (cnt f s (halves w b c).1) with
          | none =>
            refine h_ifT (g_isN (d := .none) (x_var rfl)) ?_
            exact h_ret x_lit ⟨_, rfl⟩
          | some m =>
            refine h_ifF (g_isN (d := .int m) (x_var rfl)) ?_
            refine h_asg (k_th (room := room - m) ht (ix_tup (v := 3) (x_var rfl) x_lit rfl rfl) (x_var rfl) (x_sub (x_var rfl) (x_var rfl)) (x_add (x_var rfl) x_lit) hd htt z2) ?_
            show Ht (fun r => ∃ ps, _ = some (FRes.ret (.dat (optI ((lim (room - m) (cnt f t (halves w b c).2)).map fun k => m + k))) ps)) _
            cases hB : lim (room - m) (cnt f t (halves w b c).2) with
            | none => exact h_ret0 (g_ifeT (g_isN (d := .none) (x_var rfl)) x_lit) ⟨_, rfl⟩
            | some k => exact h_ret0 (g_ifeF (g_isN (d := .int k) (x_var rfl)) (x_add (x_var rfl) (x_var rfl))) ⟨_, rfl⟩
end
end Mini
/-! Lib J: how long a thing's text is. -/
namespace Mini
open PySem L2
mutual
def nd : PyData → Nat
  | .list xs => 1 + ndAll xs
  | .tuple xs => 1 + ndAll xs
  | _ => 1
def ndAll : List PyData → Nat
  | [] => 0
  | x :: xs => nd x + ndAll xs
end
theorem ndAll_app : ∀ xs ys : List PyData, ndAll (xs ++ ys) = ndAll xs + ndAll ys
  | [], ys => by
    show ndAll ys = 0 + ndAll ys
    omega
  | x :: xs, ys => by
    show nd x + ndAll (xs ++ ys) = nd x + ndAll xs + ndAll ys
    rw [ndAll_app xs ys]
    omega
theorem ndAll_le {k : Nat} : ∀ {xs : List PyData}, (∀ x ∈ xs, nd x ≤ k) → ndAll xs ≤ k * xs.length
  | [], _ => Nat.le_refl _
  | x :: xs, h => by
    have h1 := h x List.mem_cons_self
    have h2 := ndAll_le fun y hy => h y (List.mem_cons_of_mem x hy)
    show nd x + ndAll xs ≤ k * (xs.length + 1)
    rw [Nat.mul_succ]
    omega
theorem nd_pos (d : PyData) : 1 ≤ nd d := by
  cases d <;> unfold nd <;> omega
theorem textFrom_piled : ∀ (ts : List Str) (k : Nat) (acc : Str), (textFrom k acc ts).length ≤ acc.length + piled ts
  | [], k, acc => Nat.le_add_right _ _
  | t :: ts, k, acc => by
    have h := textFrom_piled ts (k + 1) (acc ++ (if k > 0 then ", " else "" : String) ++ t)
    have e : (acc ++ (if k > 0 then ", " else "" : String) ++ t).length ≤ acc.length + 2 + t.length := by
      rw [strLen_append, strLen_append]
      split
      · exact Nat.le_refl _
      · show acc.length + 0 + t.length ≤ _
        omega
    show (textFrom (k + 1) _ ts).length ≤ _
    rw [piled_cons]
    omega
theorem listText_le (ts : List Str) : (listText ts).length ≤ 2 + piled ts := by
  have h := textFrom_piled ts 0 "["
  show (textFrom 0 "[" ts ++ "]").length ≤ _
  rw [strLen_append]
  have e1 : ((("[" : String) : Str)).length = 1 := rfl
  have e2 : ((("]" : String) : Str)).length = 1 := rfl
  omega
theorem tupleText_le (ts : List Str) : (tupleText ts).length ≤ 3 + piled ts := by
  unfold tupleText
  rw [strLen_append, strLen_append]
  have e1 : ((("(" : String) : Str)).length = 1 := rfl
  have e3 : (((if ts.length == 1 then ",)" else ")" : String) : Str)).length ≤ 2 := by split <;> decide
  rw [e1]
  by_cases h : ts = []
  · subst h
    have : (Str.join ", " ([] : List Str)).length = 0 := rfl
    omega
  · have := join_length_add ts h
    omega
mutual
theorem shown_le : ∀ d : PyData, okD d = true → (PyData.shown d).length + 2 ≤ 1010 * nd d
  | .none, _ => by
    show 4 + 2 ≤ 1010 * 1
    omega
  | .bool b, _ => by
    cases b
    · show 5 + 2 ≤ 1010 * 1
      omega
    · show 4 + 2 ≤ 1010 * 1
      omega
  | .int i, h => by
    have h := ok_int h
    have l := log_lt h
    have := int_text_length_le (k := 101) (by omega) l
    show (Str.ofString (toString i)).length + 2 ≤ 1010 * 1
    have e : (Str.ofString (toString i)).length = (toString i).length := PySem.ofString_length _
    omega
  | .str x, h => by
    obtain ⟨h1, h2⟩ := ok_str h
    have := PySem.StrLaws.reprText_len x fun c hc => by
      have h1 : x.cps.all (· < 0x110000) = true := h1
      rw [Array.all_eq_true] at h1
      obtain ⟨i, hi, e⟩ := List.getElem_of_mem hc
      have := h1 i (by simpa using hi)
      have : c < 0x110000 := by
        rw [← e]
        simpa using this
      omega
    show (reprText x).length + 2 ≤ 1010 * 1
    omega
  | .list xs, h => by
    have := shownAll_le xs (by unfold okD at h; exact h)
    have h2 := listText_le (PyData.shownAll xs)
    show (listText (PyData.shownAll xs)).length + 2 ≤ 1010 * (1 + ndAll xs)
    omega
  | .tuple xs, h => by
    have := shownAll_le xs (by unfold okD at h; exact h)
    have h2 := tupleText_le (PyData.shownAll xs)
    show (tupleText (PyData.shownAll xs)).length + 2 ≤ 1010 * (1 + ndAll xs)
    omega
  | .dict kvs, h => by
    cases kvs with
    | nil =>
      show 2 + 2 ≤ 1010 * 1
      omega
    | cons q r => cases h
theorem shownAll_le : ∀ xs : List PyData, okAll xs = true → piled (PyData.shownAll xs) ≤ 1010 * ndAll xs
  | [], _ => Nat.le_refl _
  | x :: xs, h => by
    unfold okAll at h
    obtain ⟨h1, h2⟩ := Bool.and_eq_true_iff.mp h
    have a := shown_le x h1
    have b := shownAll_le xs h2
    show piled (PyData.shown x :: PyData.shownAll xs) ≤ 1010 * (nd x + ndAll xs)
    rw [piled_cons]
    omega
end
mutual
theorem ok_showable : ∀ d : PyData, okD d = true → PyData.showable d = true
  | .none, _ => rfl
  | .bool b, _ => rfl
  | .int i, h => by
    have l := log_lt (ok_int h)
    show decide (i.natAbs.log2 < 1920) = true
    exact decide_eq_true (by omega)
  | .str x, _ => rfl
  | .list xs, h => ok_showableAll xs (by unfold okD at h; exact h)
  | .tuple xs, h => ok_showableAll xs (by unfold okD at h; exact h)
  | .dict kvs, h => by
    cases kvs with
    | nil => rfl
    | cons q r => cases h
theorem ok_showableAll : ∀ xs : List PyData, okAll xs = true → PyData.showableAll xs = true
  | [], _ => rfl
  | x :: xs, h => by
    unfold okAll at h
    obtain ⟨h1, h2⟩ := Bool.and_eq_true_iff.mp h
    show (PyData.showable x && PyData.showableAll xs) = true
    rw [ok_showable x h1, ok_showableAll xs h2]
    rfl
end
mutual
theorem ok_lay : ∀ d : PyData, okD d = true → layE d = true
  | .none, _ => rfl
  | .bool b, _ => rfl
  | .int i, h => rfl
  | .str x, _ => rfl
  | .list xs, h => ok_layAll xs (by unfold okD at h; exact h)
  | .tuple xs, h => ok_layAll xs (by unfold okD at h; exact h)
  | .dict kvs, h => by
    cases kvs with
    | nil => rfl
    | cons q r => cases h
theorem ok_layAll : ∀ xs : List PyData, okAll xs = true → layAll xs = true
  | [], _ => rfl
  | x :: xs, h => by
    unfold okAll at h
    obtain ⟨h1, h2⟩ := Bool.and_eq_true_iff.mp h
    show (layE x && layAll xs) = true
    rw [ok_lay x h1, ok_layAll xs h2]
    rfl
end
/-- what repr tells -/
theorem repr_ok {d : PyData} (h : okD d = true) (hs : isSeq d = true) (hd : d.depth ≤ 64) (hn : nd d ≤ 900) : bltD .repr [d] = some (.dat (.str (PyData.shown d))) := by
  have a := shown_le d h
  show (if (isSeq d && shapeE d && PyData.showable d && decide ((PyData.shown d).length ≤ 1000000)) = true then some (Sv.dat (.str (PyData.shown d))) else none) = _
  rw [if_pos]
  unfold shapeE
  rw [hs, ok_lay d h, ok_showable d h, decide_eq_true hd, decide_eq_true (show (PyData.shown d).length ≤ 1000000 by omega)]
  rfl
/-! ### calls with anything -/
theorem callF_sv {p : Pg} {Φ : Orc} {ρ : Env} {f : Nat} {kp : List Bool} {ss : List Sv} {v : Sv} {ps : Env} (h : Φ f ss = some (.ret v ps)) : callF Φ f kp (ss.map Rv.val) ρ = .ok (.val v) ρ := by
  have le : ∀ (ss : List Sv) (kp : List Bool), lend ρ (ss.map Rv.val) kp = some (ss, ρ, ss.map fun _ => none) := by
    intro ss
    induction ss with
    | nil => exact fun _ => rfl
    | cons s ss ih =>
      intro kp
      show (match lend ρ (ss.map Rv.val) kp.tail with
        | none => none
        | some (q, ρ2, ls) => some (s :: q, ρ2, none :: ls)) = _
      rw [ih]
      rfl
  have gb : ∀ (ss : List Sv) (ps : Env), giveBack ρ (ss.map fun _ => (none : Option Nat)) ps = some ρ := by
    intro ss
    induction ss with
    | nil => exact fun _ => rfl
    | cons d ds ih => exact fun ps => ih ps.tail
  unfold callF
  rw [le]
  show (match Φ f ss with
    | none => Res.bad
    | some (.ret s ps) => (match giveBack ρ (ss.map fun _ => (none : Option Nat)) ps with
      | some ρ2 => Res.ok (Rv.val s) ρ2
      | none => .bad)
    | some (.exc c fs ps) => (match giveBack ρ (ss.map fun _ => (none : Option Nat)) ps with
      | some ρ2 => .exc c fs ρ2
      | none => .bad)) = _
  rw [h]
  show (match giveBack ρ (ss.map fun _ => (none : Option Nat)) ps with
      | some ρ2 => Res.ok (Rv.val v) ρ2
      | none => .bad) = _
  rw [gb]
theorem g_callS {p : Pg} {Φ : Orc} {ρ ρ1 : Env} {f : Nat} {es : List IE} {ss : List Sv} {v : Sv} {ps : Env} (ha : evEs p Φ es ρ = .ok (ss.map Rv.val) ρ1) (h : Φ f ss = some (.ret v ps)) : evE p Φ (.call f es) ρ = .ok (.val v) ρ1 := by
  show (evEs p Φ es ρ).bind _ = _
  rw [ha]
  exact callF_sv (p := p) h
end Mini
set_option maxHeartbeats 1000000
/-! Lib K: books: their form, their turning. -/
namespace Mini
open PySem L2
def D_is_hand (c_is_row c_is_word_of : Nat) : FnI := ⟨1, 1, [(.ret (.and (.call c_is_row [(.var 0), (.lit (.int 2)), (.lit (.int 2))]) (.and (.call c_is_word_of [(.ix (.var 0) (.lit (.int 0))), (.glb "SIDES" (.tuple [(.str "left"), (.str "right")]))]) (.call c_is_word_of [(.ix (.var 0) (.lit (.int 1))), (.glb "HEIGHTS" (.tuple [(.str "upper"), (.str "lower")]))]))))], [true]⟩
def D_is_want (c_is_name : Nat) : FnI := ⟨1, 1, [(.ret (.or (.isN (.var 0)) (.call c_is_name [(.var 0)])))], [true]⟩
def D_is_rule (c_is_row c_is_word_of c_is_want : Nat) : FnI := ⟨1, 2, [(.ifs (.or (.not (.call c_is_row [(.var 0), (.lit (.int 5)), (.lit (.int 5))])) (.not (.call c_is_word_of [(.ix (.var 0) (.lit (.int 4))), (.glb "WORDS" (.tuple [(.str "across"), (.str "down")]))]))) [(.ret (.lit (.bool false)))] []), (.ret (.blt .all [(.lc (.name 1) [1] (.val (.slc (.var 0) none (some (.lit (.int 4))))) [] (.call c_is_want [(.var 1)]))]))], [true]⟩
def D_is_book (c_is_row c_is_hand c_is_word_of c_is_rule : Nat) : FnI := ⟨1, 2, [(.ifs (.or (.not (.call c_is_row [(.var 0), (.lit (.int 3)), (.lit (.int 3))])) (.or (.not (.call c_is_hand [(.ix (.var 0) (.lit (.int 0)))])) (.not (.call c_is_word_of [(.ix (.var 0) (.lit (.int 2))), (.glb "WORDS" (.tuple [(.str "across"), (.str "down")]))])))) [(.ret (.lit (.bool false)))] []), (.ret (.and (.call c_is_row [(.ix (.var 0) (.lit (.int 1))), (.lit (.int 0)), (.glb "MOST_RULES" (.int 30))]) (.blt .all [(.lc (.name 1) [1] (.val (.ix (.var 0) (.lit (.int 1)))) [] (.call c_is_rule [(.var 1)]))])))], [true]⟩
def D_need_book (c_is_book k_BadBook : Nat) : FnI := ⟨1, 1, [(.ifs (.not (.call c_is_book [(.var 0)])) [(.raise k_BadBook [])] [])], [true]⟩
def D_other_of : FnI := ⟨2, 2, [(.ret (.ix (.var 0) (.bin .sub (.lit (.int 1)) (.indexG (.var 0) (.var 1)))))], [true, true]⟩
def D_mirrored_of (c_other_of : Nat) : FnI := ⟨1, 6, [(.asg (.tup [(.name 1), (.name 2), (.name 3)]) (.var 0)), (.asg (.name 4) (.lc (.name 5) [5] (.val (.var 2)) [] (.tup [(.ix (.var 5) (.lit (.int 1))), (.ix (.var 5) (.lit (.int 0))), (.ix (.var 5) (.lit (.int 3))), (.ix (.var 5) (.lit (.int 2))), (.ix (.var 5) (.lit (.int 4)))]))), (.ret (.tup [(.tup [(.call c_other_of [(.gt "SIDES" [(.str "left"), (.str "right")]), (.ix (.var 1) (.lit (.int 0)))]), (.ix (.var 1) (.lit (.int 1)))]), (.blt .tuple [(.var 4)]), (.var 3)]))], [true]⟩
def D_turned_over_of (c_other_of : Nat) : FnI := ⟨1, 6, [(.asg (.tup [(.name 1), (.name 2), (.name 3)]) (.var 0)), (.asg (.name 4) (.lc (.name 5) [5] (.val (.var 2)) [] (.tup [(.ix (.var 5) (.lit (.int 2))), (.ix (.var 5) (.lit (.int 3))), (.ix (.var 5) (.lit (.int 0))), (.ix (.var 5) (.lit (.int 1))), (.ix (.var 5) (.lit (.int 4)))]))), (.ret (.tup [(.tup [(.ix (.var 1) (.lit (.int 0))), (.call c_other_of [(.gt "HEIGHTS" [(.str "upper"), (.str "lower")]), (.ix (.var 1) (.lit (.int 1)))])]), (.blt .tuple [(.var 4)]), (.var 3)]))], [true]⟩
def D_side_of (c_other_of : Nat) : FnI := ⟨1, 7, [(.asg (.tup [(.name 1), (.name 2), (.name 3)]) (.var 0)), (.asg (.name 4) (.lc (.name 5) [5] (.val (.var 2)) [] (.tup [(.ix (.var 5) (.lit (.int 0))), (.ix (.var 5) (.lit (.int 2))), (.ix (.var 5) (.lit (.int 1))), (.ix (.var 5) (.lit (.int 3))), (.call c_other_of [(.gt "WORDS" [(.str "across"), (.str "down")]), (.ix (.var 5) (.lit (.int 4)))])]))), (.asg (.name 6) (.tup [(.ix (.glb "SIDES" (.tuple [(.str "left"), (.str "right")])) (.indexG (.gt "HEIGHTS" [(.str "upper"), (.str "lower")]) (.ix (.var 1) (.lit (.int 1))))), (.ix (.glb "HEIGHTS" (.tuple [(.str "upper"), (.str "lower")])) (.indexG (.gt "SIDES" [(.str "left"), (.str "right")]) (.ix (.var 1) (.lit (.int 0)))))])), (.ret (.tup [(.var 6), (.blt .tuple [(.var 4)]), (.call c_other_of [(.gt "WORDS" [(.str "across"), (.str "down")]), (.var 3)])]))], [true]⟩
def D_mirrored_book (c_need_book c_mirrored_of : Nat) : FnI := ⟨1, 1, [(.expr (.call c_need_book [(.var 0)])), (.ret (.call c_mirrored_of [(.var 0)]))], [true]⟩
def D_turned_over_book (c_need_book c_turned_over_of : Nat) : FnI := ⟨1, 1, [(.expr (.call c_need_book [(.var 0)])), (.ret (.call c_turned_over_of [(.var 0)]))], [true]⟩
def D_side_book (c_need_book c_side_of : Nat) : FnI := ⟨1, 1, [(.expr (.call c_need_book [(.var 0)])), (.ret (.call c_side_of [(.var 0)]))], [true]⟩
def D__law_no_book (c__law_one c__law_draw : Nat) : FnI := ⟨2, 13, [(.asg (.tup [(.name 2), (.name 3), (.name 4)]) (.var 1)), (.asg (.name 5) (.call c__law_one [(.var 0), (.lst [(.lit (.str "Across")), (.lit (.str "left")), (.lit (.str "")), (.lit .none), (.lit (.int 0)), (.lit (.bool true)), (.tup [(.lit (.str "across"))]), (.lst [(.lit (.str "down"))]), (.lit (.str "acrossdown"))])])), (.asg (.name 6) (.lst [(.lit .none), (.blt .list [(.var 1)]), (.tup [(.var 2), (.var 3)]), (.bin .add (.var 1) (.tup [(.var 4)])), (.tup [(.var 2), (.blt .list [(.var 3)]), (.var 4)]), (.tup [(.var 2), (.var 3), (.var 5)]), (.tup [(.var 2), (.lit .none), (.var 4)]), (.lit (.int 5)), (.lit (.str "")), (.dic false [])])), (.asg (.name 6) (.bin .add (.var 6) (.lst [(.tup [(.rev (.var 2)), (.var 3), (.var 4)]), (.tup [(.slc (.var 2) none (some (.lit (.int 1)))), (.var 3), (.var 4)]), (.tup [(.blt .list [(.var 2)]), (.var 3), (.var 4)]), (.tup [(.tup [(.lit (.str "left")), (.lit (.str "left"))]), (.var 3), (.var 4)]), (.tup [(.lit (.str "left")), (.var 3), (.var 4)])]))), (.asg (.name 6) (.bin .add (.var 6) (.lst [(.tup [(.tup [(.lit (.str "upper")), (.lit (.str "lower"))]), (.var 3), (.var 4)]), (.tup [(.tup [(.lit (.str "Left")), (.lit (.str "upper"))]), (.var 3), (.var 4)]), (.tup [(.lit .none), (.var 3), (.var 4)]), (.tup [(.bin .add (.var 2) (.tup [(.lit (.str "upper"))])), (.var 3), (.var 4)])]))), (.asg (.name 7) (.tup [(.lit (.str "k")), (.lit .none), (.lit (.str "k2")), (.lit .none), (.lit (.str "down"))])), (.asg (.name 8) (.call c__law_one [(.var 0), (.lst [(.lit (.str "K")), (.lit (.str "")), (.lit (.str "1k")), (.lit (.str "abcdefghi")), (.lit (.int 0)), (.lit (.bool true)), (.tup [(.lit (.str "k"))]), (.lst [(.lit (.str "k"))]), (.lit (.str "a b")), (.lit (.str "_k"))])])), (.asg (.name 9) (.call c__law_draw [(.var 0), (.lit (.int 4))])), (.asg (.name 10) (.lst [(.bin .add (.bin .add (.slc (.var 7) none (some (.var 9))) (.tup [(.var 8)])) (.slc (.var 7) (some (.bin .add (.var 9) (.lit (.int 1)))) none)), (.bin .add (.slc (.var 7) none (some (.lit (.int 4)))) (.tup [(.var 5)])), (.blt .list [(.var 7)]), (.slc (.var 7) (some (.lit (.int 1))) none), (.bin .add (.var 7) (.tup [(.lit (.str "down"))])), (.slc (.var 7) none (some (.lit (.int 4)))), (.lit .none), (.lit (.str "down")), (.tup [])])), (.par [11, 12] [(.call c__law_one [(.var 0), (.var 10)]), (.call c__law_draw [(.var 0), (.bin .add (.blt .len [(.var 3)]) (.lit (.int 1)))])]), (.asg (.name 6) (.bin .add (.bin .add (.var 6) (.bin .mul (.lst [(.tup [(.var 2), (.bin .add (.bin .add (.slc (.var 3) none (some (.var 12))) (.tup [(.var 11)])) (.slc (.var 3) (some (.var 12)) none)), (.var 4)])]) (.lit (.int 12)))) (.lst [(.tup [(.var 2), (.bin .mul (.tup [(.var 7)]) (.lit (.int 31))), (.var 4)]), (.tup [(.var 2), (.bin .mul (.tup [(.var 7)]) (.lit (.int 40))), (.var 4)])]))), (.ret (.call c__law_one [(.var 0), (.var 6)]))], [true, true]⟩
def D__law_drawn_book (c__law_one c__law_draw : Nat) : FnI := ⟨1, 6, [(.asg (.name 1) (.lst [])), (.forr (.name 2) (.rng [(.call c__law_one [(.var 0), (.lst [(.call c__law_draw [(.var 0), (.lit (.int 6))]), (.call c__law_draw [(.var 0), (.lit (.int 31))]), (.lit (.int 30))])])]) [(.asg (.name 3) (.blt .tuple [(.lc (.name 4) [4] (.rng [(.lit (.int 4))]) [] (.call c__law_one [(.var 0), (.lst [(.lit (.str "k")), (.lit (.str "k2")), (.lit (.str "a")), (.lit (.str "long1234")), (.lit .none), (.lit .none)])]))])), (.app 1 (.bin .add (.var 3) (.tup [(.call c__law_one [(.var 0), (.lst [(.lit (.str "across")), (.lit (.str "down"))])])])))]), (.asg (.name 5) (.tup [(.call c__law_one [(.var 0), (.lst [(.lit (.str "left")), (.lit (.str "right"))])]), (.call c__law_one [(.var 0), (.lst [(.lit (.str "upper")), (.lit (.str "lower"))])])])), (.ret (.tup [(.var 5), (.blt .tuple [(.var 1)]), (.call c__law_one [(.var 0), (.lst [(.lit (.str "across")), (.lit (.str "down"))])])]))], [true]⟩
def D__law_turned : FnI := ⟨2, 8, [(.asg (.tup [(.name 2), (.name 3), (.name 4)]) (.var 0)), (.asg (.name 5) (.dic false [(.lit (.str "left")), (.lit (.str "right")), (.lit (.str "right")), (.lit (.str "left")), (.lit (.str "upper")), (.lit (.str "lower")), (.lit (.str "lower")), (.lit (.str "upper")), (.lit (.str "across")), (.lit (.str "down")), (.lit (.str "down")), (.lit (.str "across"))])), (.ifs (.cmp .eq (.var 1) (.lit (.int 0))) [(.ret (.tup [(.tup [(.ix (.var 5) (.ix (.var 2) (.lit (.int 0)))), (.ix (.var 2) (.lit (.int 1)))]), (.blt .tuple [(.lc (.name 6) [6] (.val (.var 3)) [] (.tup [(.ix (.var 6) (.lit (.int 1))), (.ix (.var 6) (.lit (.int 0))), (.ix (.var 6) (.lit (.int 3))), (.ix (.var 6) (.lit (.int 2))), (.ix (.var 6) (.lit (.int 4)))]))]), (.var 4)]))] []), (.ifs (.cmp .eq (.var 1) (.lit (.int 1))) [(.ret (.tup [(.tup [(.ix (.var 2) (.lit (.int 0))), (.ix (.var 5) (.ix (.var 2) (.lit (.int 1))))]), (.blt .tuple [(.lc (.name 6) [6] (.val (.var 3)) [] (.tup [(.ix (.var 6) (.lit (.int 2))), (.ix (.var 6) (.lit (.int 3))), (.ix (.var 6) (.lit (.int 0))), (.ix (.var 6) (.lit (.int 1))), (.ix (.var 6) (.lit (.int 4)))]))]), (.var 4)]))] []), (.asg (.name 7) (.tup [(.ife (.cmp .eq (.ix (.var 2) (.lit (.int 1))) (.lit (.str "upper"))) (.lit (.str "left")) (.lit (.str "right"))), (.ife (.cmp .eq (.ix (.var 2) (.lit (.int 0))) (.lit (.str "left"))) (.lit (.str "upper")) (.lit (.str "lower")))])), (.ret (.tup [(.var 7), (.blt .tuple [(.lc (.name 6) [6] (.val (.var 3)) [] (.tup [(.ix (.var 6) (.lit (.int 0))), (.ix (.var 6) (.lit (.int 2))), (.ix (.var 6) (.lit (.int 1))), (.ix (.var 6) (.lit (.int 3))), (.ix (.var 5) (.ix (.var 6) (.lit (.int 4))))]))]), (.ix (.var 5) (.var 4))]))], [true, true]⟩
def D__law_told (c_mirrored_book c_turned_over_book c_side_book : Nat) : FnI := ⟨3, 3, [(.ifs (.cmp .eq (.var 1) (.lit (.int 0))) [(.ret (.ife (.var 2) (.callk c_mirrored_book [(.var 0)] [0]) (.call c_mirrored_book [(.var 0)])))] []), (.ifs (.cmp .eq (.var 1) (.lit (.int 1))) [(.ret (.ife (.var 2) (.callk c_turned_over_book [(.var 0)] [0]) (.call c_turned_over_book [(.var 0)])))] []), (.ret (.ife (.var 2) (.callk c_side_book [(.var 0)] [0]) (.call c_side_book [(.var 0)])))], [true, true, true]⟩
def D__law_is_refused (c__law_told : Nat) : FnI := ⟨3, 5, [(.asg (.name 3) (.lit .none)), (.tryK [(.expr (.call c__law_told [(.var 0), (.var 1), (.var 2)]))] 0 4 3 [(.asg (.name 3) (.var 4))] [(.ret (.isx (.var 3) 1))])], [true, true, true]⟩
/-! ### forms -/
def sides : List Str := ["left", "right"]
def heights : List Str := ["upper", "lower"]
def words : List Str := ["across", "down"]
def handB : PyData → Bool
  | .tuple [x, y] => wordD sides x && wordD heights y
  | _ => false
def wantB (d : PyData) : Bool := noneD d || nameD d
def ruleB : PyData → Bool
  | .tuple [a, b, c, d, w] => wordD words w && (wantB a && (wantB b && (wantB c && wantB d)))
  | _ => false
def rulesB : PyData → Bool
  | .tuple rs => rs.all ruleB
  | _ => false
def bookB : PyData → Bool
  | .tuple [h, r, w] => handB h && (wordD words w && (rowD 0 30 r && rulesB r))
  | _ => false
theorem row_false {lo hi : Int} {xs : List PyData} (h : ¬ (lo ≤ (xs.length : Int) ∧ (xs.length : Int) ≤ hi)) : rowD lo hi (.tuple xs) = false := by
  show (decide (lo ≤ (xs.length : Int)) && decide ((xs.length : Int) ≤ hi)) = false
  by_cases h1 : lo ≤ (xs.length : Int)
  · rw [decide_eq_false (fun h2 => h ⟨h1, h2⟩), Bool.and_false]
  · rw [decide_eq_false h1, Bool.false_and]
section
variable {p : Pg} {Φ : Orc}
theorem is_hand_ok {cr cw : Nat} (hr : RowOk Φ cr) (hw : WordOk Φ cw) (d : PyData) : ∃ ps, runF p Φ (D_is_hand cr cw) [.dat d] = some (.ret (.dat (.bool (handB d))) ps) := by
  have no : rowD 2 2 d = false → handB d = false → ∃ ps, runF p Φ (D_is_hand cr cw) [.dat d] = some (.ret (.dat (.bool (handB d))) ps) := fun h h2 => by
    have h1 := k_row (p := p) (lo := 2) (hi := 2) hr (x_var (p := p) (Φ := Φ) (ρ := [some (.dat d)]) (i := 0) rfl) x_lit x_lit
    rw [h] at h1
    rw [h2]
    exact rr rfl (h_ret (g_andF h1 rfl) ⟨_, rfl⟩)
  cases d with
  | tuple xs =>
    match xs with
    | [x, y] => exact rr rfl (h_ret (g_and (k_row hr (x_var rfl) x_lit x_lit) fun _ => g_and (k_word sides hw (ix_tup (v := 0) (x_var rfl) x_lit rfl rfl) x_glb) fun _ => k_word heights hw (ix_tup (v := 1) (x_var rfl) x_lit rfl rfl) x_glb) ⟨_, rfl⟩)
    | [] => exact no rfl rfl
    | [_] => exact no rfl rfl
    | _ :: _ :: _ :: r => exact no (row_false (by simp only [List.length_cons]; omega)) rfl
  | _ => exact no rfl rfl
theorem is_want_ok {cn : Nat} (hn : B1 Φ cn (fun d => okD d = true) nameD) (d : PyData) (hd : okD d = true) : ∃ ps, runF p Φ (D_is_want cn) [.dat d] = some (.ret (.dat (.bool (wantB d))) ps) :=
  rr rfl (h_ret (g_or (g_isN (x_var rfl)) fun _ => k_b1 hn (x_var rfl) hd) ⟨_, rfl⟩)
theorem is_rule_ok {cr cw ct : Nat} (hr : RowOk Φ cr) (hw : WordOk Φ cw) (ht : B1 Φ ct (fun d => okD d = true) wantB) (d : PyData) (hd : okD d = true) : ∃ ps, runF p Φ (D_is_rule cr cw ct) [.dat d] = some (.ret (.dat (.bool (ruleB d))) ps) := by
  have no : rowD 5 5 d = false → ruleB d = false → ∃ ps, runF p Φ (D_is_rule cr cw ct) [.dat d] = some (.ret (.dat (.bool (ruleB d))) ps) := fun h h2 => by
    have h1 := k_row (p := p) (lo := 5) (hi := 5) hr (x_var (p := p) (Φ := Φ) (ρ := [some (.dat d), none]) (i := 0) rfl) x_lit x_lit
    rw [h] at h1
    rw [h2]
    refine rr rfl (h_ifT (t := [_]) (g_orT (g_notB h1) rfl) ?_)
    exact h_ret x_lit ⟨_, rfl⟩
  cases d with
  | tuple xs =>
    match xs, hd with
    | [a, b, c, e, w], hd =>
      have hok := ok_tup hd
      refine rr rfl (h_if (g_or (g_notB (k_row hr (x_var rfl) x_lit x_lit)) fun _ => g_notB (k_word words hw (ix_tup (v := 4) (x_var rfl) x_lit rfl rfl) x_glb)) (fun h => ?_) fun h => ?_)
      · have h : wordD words w = false := by
          have : (!wordD words w) = true := h
          simpa using this
        have e : ruleB (.tuple [a, b, c, e, w]) = false := by
          show (wordD words w && _) = false
          rw [h]
          rfl
        rw [e]
        exact h_ret x_lit ⟨_, rfl⟩
      · have h : wordD words w = true := by
          have : (!wordD words w) = false := h
          simpa using this
        have e2 : ruleB (.tuple [a, b, c, e, w]) = [a, b, c, e].all wantB := by
          show (wordD words w && _) = _
          rw [h, Bool.true_and]
          simp [List.all_cons]
        rw [e2]
        refine h_ret (g_all (f := wantB) (xs := [a, b, c, e]) rfl (i_tup rfl) (by show 4 ≤ 1000000; omega) fun x hx => k_b1 ht (x_var rfl) (hok x ?_)) ⟨_, rfl⟩
        simp only [List.mem_cons, List.not_mem_nil, or_false] at hx ⊢
        rcases hx with rfl | rfl | rfl | rfl <;> simp
    | [], _ => exact no rfl rfl
    | [_], _ => exact no rfl rfl
    | [_, _], _ => exact no rfl rfl
    | [_, _, _], _ => exact no rfl rfl
    | [_, _, _, _], _ => exact no rfl rfl
    | _ :: _ :: _ :: _ :: _ :: _ :: r, _ => exact no (row_false (by simp only [List.length_cons]; omega)) rfl
  | _ => exact no rfl rfl
theorem rowD_le {n : Int} {d : PyData} (h : rowD 0 n d = true) : ∃ xs, d = .tuple xs ∧ (xs.length : Int) ≤ n := by
  obtain ⟨xs, e, _, h2⟩ := rowD_true h
  exact ⟨xs, e, h2⟩
theorem is_book_ok {cr ch cw cl : Nat} (hr : RowOk Φ cr) (hh : B1 Φ ch (fun _ => True) handB) (hw : WordOk Φ cw) (hl : B1 Φ cl (fun d => okD d = true) ruleB) (d : PyData) (hd : okD d = true) : ∃ ps, runF p Φ (D_is_book cr ch cw cl) [.dat d] = some (.ret (.dat (.bool (bookB d))) ps) := by
  have no : rowD 3 3 d = false → bookB d = false → ∃ ps, runF p Φ (D_is_book cr ch cw cl) [.dat d] = some (.ret (.dat (.bool (bookB d))) ps) := fun h h2 => by
    have h1 := k_row (p := p) (lo := 3) (hi := 3) hr (x_var (p := p) (Φ := Φ) (ρ := [some (.dat d), none]) (i := 0) rfl) x_lit x_lit
    rw [h] at h1
    rw [h2]
    refine rr rfl (h_ifT (t := [_]) (g_orT (g_notB h1) rfl) ?_)
    exact h_ret x_lit ⟨_, rfl⟩
  cases d with
  | tuple xs =>
    match xs, hd with
    | [h, r, w], hd =>
      have hok := ok_tup hd
      have e0 : bookB (.tuple [h, r, w]) = (handB h && (wordD words w && (rowD 0 30 r && rulesB r))) := rfl
      refine rr rfl (h_if (g_or (g_notB (k_row hr (x_var rfl) x_lit x_lit)) fun _ => g_or (g_notB (k_b1 hh (ix_tup (v := 0) (x_var rfl) x_lit rfl rfl) trivial)) fun _ => g_notB (k_word words hw (ix_tup (v := 2) (x_var rfl) x_lit rfl rfl) x_glb)) (fun q => ?_) fun q => ?_)
      · have q : (!handB h || !wordD words w) = true := q
        have e : bookB (.tuple [h, r, w]) = false := by
          rw [e0]
          cases hA : handB h <;> cases hB : wordD words w <;> simp_all
        rw [e]
        exact h_ret x_lit ⟨_, rfl⟩
      · have q : (!handB h || !wordD words w) = false := q
        have e : bookB (.tuple [h, r, w]) = (rowD 0 30 r && rulesB r) := by
          rw [e0]
          cases hA : handB h <;> cases hB : wordD words w <;> simp_all
        rw [e]
        refine h_ret (g_and (k_row hr (ix_tup (v := 1) (x_var rfl) x_lit rfl rfl) x_lit x_glb) fun z => ?_) ⟨_, rfl⟩
        obtain ⟨rs, rfl, hn⟩ := rowD_le z
        have hrs := ok_tup (hok (.tuple rs) (by simp))
        exact g_all (f := ruleB) rfl (i_tup (ix_tup (v := 1) (x_var rfl) x_lit rfl rfl)) (by omega) fun x hx => k_b1 hl (x_var rfl) (hrs x hx)
    | [], _ => exact no rfl rfl
    | [_], _ => exact no rfl rfl
    | [_, _], _ => exact no rfl rfl
    | _ :: _ :: _ :: _ :: r, _ => exact no (row_false (by simp only [List.length_cons]; omega)) rfl
  | _ => exact no rfl rfl
theorem need_book_ok {cb kb : Nat} (hb : B1 Φ cb (fun d => okD d = true) bookB) (d : PyData) (hd : okD d = true) : ∃ ps, runF p Φ (D_need_book cb kb) [.dat d] = some (if bookB d = true then .ret (.dat .none) ps else .exc kb [] ps) := by
  have key : ∃ fr, runF p Φ (D_need_book cb kb) [.dat d] = some fr ∧ ∃ ps, fr = (if bookB d = true then .ret (.dat .none) ps else .exc kb [] ps) := by
    refine r_of rfl (h_if (g_notB (k_b1 hb (x_var rfl) hd)) (fun h => ?_) fun h => ?_)
    · have h : bookB d = false := by simpa using h
      rw [h]
      exact ⟨_, rfl, _, rfl⟩
    · have h : bookB d = true := by simpa using h
      rw [h]
      exact ⟨_, rfl, _, rfl⟩
  obtain ⟨fr, h1, ps, rfl⟩ := key
  exact ⟨ps, h1⟩
end
end Mini
set_option maxHeartbeats 1000000
/-! Lib L: books turned. -/
namespace Mini
open PySem L2
structure Bk where
  s : Str
  v : Str
  rs : List PyData
  w : Str
def bkD (b : Bk) : PyData := .tuple [.tuple [.str b.s, .str b.v], .tuple b.rs, .str b.w]
def oth (ws : Str × Str) (x : Str) : Str := if x = ws.1 then ws.2 else ws.1
def oS : Str → Str := oth ("left", "right")
def oH : Str → Str := oth ("upper", "lower")
def oW : Str → Str := oth ("across", "down")
def oWD : PyData → PyData
  | .str w => .str (oW w)
  | d => d
def mirR : PyData → PyData
  | .tuple [a, b, c, d, w] => .tuple [b, a, d, c, w]
  | d => d
def ovrR : PyData → PyData
  | .tuple [a, b, c, d, w] => .tuple [c, d, a, b, w]
  | d => d
def sidR : PyData → PyData
  | .tuple [a, b, c, d, w] => .tuple [a, c, b, d, oWD w]
  | d => d
def toS (v : Str) : Str := if v = "upper" then "left" else "right"
def toH (s : Str) : Str := if s = "left" then "upper" else "lower"
def mirB (b : Bk) : Bk := ⟨oS b.s, b.v, b.rs.map mirR, b.w⟩
def ovrB (b : Bk) : Bk := ⟨b.s, oH b.v, b.rs.map ovrR, b.w⟩
def sidB (b : Bk) : Bk := ⟨toS b.v, toH b.s, b.rs.map sidR, oW b.w⟩
structure BkOk (b : Bk) : Prop where
  s : b.s = "left" ∨ b.s = "right"
  v : b.v = "upper" ∨ b.v = "lower"
  w : b.w = "across" ∨ b.w = "down"
  n : b.rs.length ≤ 30
  r : ∀ r ∈ b.rs, ∃ a1 a2 a3 a4 w, r = .tuple [a1, a2, a3, a4, .str w] ∧ (w = "across" ∨ w = "down") ∧ ∀ a ∈ [a1, a2, a3, a4], wantB a = true ∧ okD a = true ∧ nd a = 1 ∧ a.depth = 0
theorem okS {x : Str} (h : strOkL x = true) : okD (.str x) = true := by
  unfold okD
  exact h
theorem wordD_two {a b x : Str} (h : x = a ∨ x = b) : wordD [a, b] (.str x) = true := decide_eq_true (by simpa using h)
theorem BkOk.rule {b : Bk} (h : BkOk b) {r : PyData} (hr : r ∈ b.rs) : ruleB r = true ∧ okD r = true ∧ nd r = 6 ∧ r.depth = 1 := by
  obtain ⟨a1, a2, a3, a4, w, rfl, hw, ha⟩ := h.r r hr
  obtain ⟨h1, k1, n1, d1⟩ := ha a1 (by simp)
  obtain ⟨h2, k2, n2, d2⟩ := ha a2 (by simp)
  obtain ⟨h3, k3, n3, d3⟩ := ha a3 (by simp)
  obtain ⟨h4, k4, n4, d4⟩ := ha a4 (by simp)
  have kw : okD (.str w) = true := by rcases hw with rfl | rfl <;> exact okS (by decide +kernel)
  refine ⟨?_, ?_, ?_, ?_⟩
  · show (wordD words (.str w) && (wantB a1 && (wantB a2 && (wantB a3 && wantB a4)))) = true
    rw [h1, h2, h3, h4, show wordD words (.str w) = true from wordD_two hw]
    rfl
  · show okAll [a1, a2, a3, a4, .str w] = true
    simp only [okAll, k1, k2, k3, k4, kw, Bool.and_self]
  · show 1 + ndAll [a1, a2, a3, a4, .str w] = 6
    simp only [ndAll, n1, n2, n3, n4]
    rfl
  · show PyData.depthAll [a1, a2, a3, a4, .str w] + 1 = 1
    simp only [PyData.depthAll, d1, d2, d3, d4]
    rfl
theorem depthAll_le {k : Nat} : ∀ {xs : List PyData}, (∀ x ∈ xs, x.depth ≤ k) → PyData.depthAll xs ≤ k
  | [], _ => Nat.zero_le _
  | x :: xs, h => by
    show max x.depth (PyData.depthAll xs) ≤ k
    exact Nat.max_le.mpr ⟨h x List.mem_cons_self, depthAll_le fun y hy => h y (List.mem_cons_of_mem x hy)⟩
theorem BkOk.ok {b : Bk} (h : BkOk b) : okD (bkD b) = true ∧ bookB (bkD b) = true ∧ nd (bkD b) ≤ 186 ∧ (bkD b).depth ≤ 3 := by
  have k1 : okD (.str b.s) = true := by rcases h.s with e | e <;> rw [e] <;> exact okS (by decide +kernel)
  have k2 : okD (.str b.v) = true := by rcases h.v with e | e <;> rw [e] <;> exact okS (by decide +kernel)
  have k3 : okD (.str b.w) = true := by rcases h.w with e | e <;> rw [e] <;> exact okS (by decide +kernel)
  have kr : okD (.tuple b.rs) = true := by
    show okAll b.rs = true
    exact okAll_iff.mpr fun r hr => (h.rule hr).2.1
  refine ⟨?_, ?_, ?_, ?_⟩
  · show okAll [.tuple [.str b.s, .str b.v], .tuple b.rs, .str b.w] = true
    have : okD (.tuple [.str b.s, .str b.v]) = true := by
      show okAll [.str b.s, .str b.v] = true
      simp only [okAll, k1, k2, Bool.and_self]
    simp only [okAll, this, kr, k3, Bool.and_self]
  · show (wordD sides (.str b.s) && wordD heights (.str b.v) && (wordD words (.str b.w) && (rowD 0 30 (.tuple b.rs) && b.rs.all ruleB))) = true
    have e1 : rowD 0 30 (.tuple b.rs) = true := by
      show (decide ((0 : Int) ≤ (b.rs.length : Int)) && decide ((b.rs.length : Int) ≤ 30)) = true
      have := h.n
      rw [decide_eq_true (by omega), decide_eq_true (by omega)]
      rfl
    rw [show wordD sides (.str b.s) = true from wordD_two h.s, show wordD heights (.str b.v) = true from wordD_two h.v, show wordD words (.str b.w) = true from wordD_two h.w, e1, List.all_eq_true.mpr fun r hr => (h.rule hr).1]
    rfl
  · show 1 + ndAll [.tuple [.str b.s, .str b.v], .tuple b.rs, .str b.w] ≤ 186
    have h1 : ndAll b.rs ≤ 6 * b.rs.length := ndAll_le fun r hr => Nat.le_of_eq (h.rule hr).2.2.1
    have h2 := h.n
    show 1 + ((1 + (1 + (1 + 0))) + ((1 + ndAll b.rs) + (1 + 0))) ≤ 186
    omega
  · show PyData.depthAll [.tuple [.str b.s, .str b.v], .tuple b.rs, .str b.w] + 1 ≤ 3
    have h1 : PyData.depthAll b.rs ≤ 1 := depthAll_le fun r hr => Nat.le_of_eq (h.rule hr).2.2.2
    show max 1 (max (PyData.depthAll b.rs + 1) (max 0 0)) + 1 ≤ 3
    omega
theorem oth_in {a b x : Str} : oth (a, b) x = a ∨ oth (a, b) x = b := by
  unfold oth
  split
  · exact .inr rfl
  · exact .inl rfl
theorem oth_in' {a b x : Str} : oth (a, b) x = a ∨ oth (a, b) x = b := oth_in
theorem mirB_ok {b : Bk} (h : BkOk b) : BkOk (mirB b) := by
  refine ⟨oth_in, h.v, h.w, by show (b.rs.map mirR).length ≤ 30; rw [List.length_map]; exact h.n, fun r hr => ?_⟩
  obtain ⟨q, hq, rfl⟩ := List.mem_map.mp hr
  obtain ⟨a1, a2, a3, a4, w, rfl, hw, ha⟩ := h.r q hq
  exact ⟨a2, a1, a4, a3, w, rfl, hw, fun a hm => ha a (by simp only [List.mem_cons, List.not_mem_nil, or_false] at hm ⊢; rcases hm with e | e | e | e <;> simp [e])⟩
theorem ovrB_ok {b : Bk} (h : BkOk b) : BkOk (ovrB b) := by
  refine ⟨h.s, oth_in, h.w, by show (b.rs.map ovrR).length ≤ 30; rw [List.length_map]; exact h.n, fun r hr => ?_⟩
  obtain ⟨q, hq, rfl⟩ := List.mem_map.mp hr
  obtain ⟨a1, a2, a3, a4, w, rfl, hw, ha⟩ := h.r q hq
  exact ⟨a3, a4, a1, a2, w, rfl, hw, fun a hm => ha a (by simp only [List.mem_cons, List.not_mem_nil, or_false] at hm ⊢; rcases hm with e | e | e | e <;> simp [e])⟩
theorem sidB_ok {b : Bk} (h : BkOk b) : BkOk (sidB b) := by
  refine ⟨by unfold sidB toS; dsimp only; split <;> simp, by unfold sidB toH; dsimp only; split <;> simp, oth_in, by show (b.rs.map sidR).length ≤ 30; rw [List.length_map]; exact h.n, fun r hr => ?_⟩
  obtain ⟨q, hq, rfl⟩ := List.mem_map.mp hr
  obtain ⟨a1, a2, a3, a4, w, rfl, hw, ha⟩ := h.r q hq
  exact ⟨a1, a3, a2, a4, oW w, rfl, oth_in, fun a hm => ha a (by simp only [List.mem_cons, List.not_mem_nil, or_false] at hm ⊢; rcases hm with e | e | e | e <;> simp [e])⟩
theorem map_same {f g : PyData → PyData} {l : List PyData} (h : ∀ r ∈ l, f (g r) = r) : (l.map g).map f = l := by
  rw [List.map_map]
  induction l with
  | nil => rfl
  | cons r l ih =>
    rw [List.map_cons, ih fun q hq => h q (List.mem_cons_of_mem _ hq)]
    show f (g r) :: l = _
    rw [h r List.mem_cons_self]
theorem map_both {f g f' g' : PyData → PyData} {l : List PyData} (h : ∀ r ∈ l, f (g r) = f' (g' r)) : (l.map g).map f = (l.map g').map f' := by
  rw [List.map_map, List.map_map]
  exact List.map_congr_left h
theorem bk_ext {b c : Bk} (h1 : b.s = c.s) (h2 : b.v = c.v) (h3 : b.rs = c.rs) (h4 : b.w = c.w) : b = c := by
  cases b
  cases c
  cases h1
  cases h2
  cases h3
  cases h4
  rfl
theorem mir_mir {b : Bk} (h : BkOk b) : mirB (mirB b) = b := by
  refine bk_ext ?_ rfl (map_same fun r hr => ?_) rfl
  · show oS (oS b.s) = b.s
    rcases h.s with e | e <;> rw [e] <;> decide
  · obtain ⟨a1, a2, a3, a4, w, rfl, _, _⟩ := h.r r hr
    rfl
theorem ovr_ovr {b : Bk} (h : BkOk b) : ovrB (ovrB b) = b := by
  refine bk_ext rfl ?_ (map_same fun r hr => ?_) rfl
  · show oH (oH b.v) = b.v
    rcases h.v with e | e <;> rw [e] <;> decide
  · obtain ⟨a1, a2, a3, a4, w, rfl, _, _⟩ := h.r r hr
    rfl
theorem oW_oW {w : Str} (h : w = "across" ∨ w = "down") : oW (oW w) = w := by
  rcases h with e | e <;> rw [e] <;> decide
theorem sid_sid {b : Bk} (h : BkOk b) : sidB (sidB b) = b := by
  refine bk_ext ?_ ?_ (map_same fun r hr => ?_) (oW_oW h.w)
  · show toS (toH b.s) = b.s
    rcases h.s with e | e <;> rw [e] <;> decide
  · show toH (toS b.v) = b.v
    rcases h.v with e | e <;> rw [e] <;> decide
  · obtain ⟨a1, a2, a3, a4, w, rfl, hw, _⟩ := h.r r hr
    show PyData.tuple [a1, a2, a3, a4, .str (oW (oW w))] = _
    rw [oW_oW hw]
theorem ovr_mir {b : Bk} (h : BkOk b) : ovrB (mirB b) = mirB (ovrB b) :=
  bk_ext rfl rfl (map_both fun r hr => by
    obtain ⟨a1, a2, a3, a4, w, rfl, _, _⟩ := h.r r hr
    rfl) rfl
theorem sid_mir {b : Bk} (h : BkOk b) : sidB (mirB b) = ovrB (sidB b) := by
  refine bk_ext rfl ?_ (map_both fun r hr => ?_) rfl
  · show toH (oS b.s) = oH (toH b.s)
    rcases h.s with e | e <;> rw [e] <;> decide
  · obtain ⟨a1, a2, a3, a4, w, rfl, _, _⟩ := h.r r hr
    rfl
/-! ### the program's -/
section
variable {p : Pg} {Φ : Orc}
def OtherOk (Φ : Orc) (i : Nat) : Prop := ∀ (a b x : Str), a ≠ b → (x = a ∨ x = b) → ∃ ps, Φ i [.glt [.str a, .str b], .dat (.str x)] = some (.ret (.dat (.str (oth (a, b) x))) ps)
theorem other_of_ok (a b x : Str) (hab : a ≠ b) (hx : x = a ∨ x = b) : ∃ ps, runF p Φ D_other_of [.glt [.str a, .str b], .dat (.str x)] = some (.ret (.dat (.str (oth (a, b) x))) ps) := by
  refine rr rfl ?_
  have hi : ∀ j : Nat, indexS x [a, b] = some j → evE p Φ (.indexG (.var 0) (.var 1)) [some (.glt [.str a, .str b]), some (.dat (.str x))] = .ok (.val (.dat (.int (j : Int)))) [some (.glt [.str a, .str b]), some (.dat (.str x))] := fun j hj => by
    show datR _ ((indexS x [a, b]).map fun (j : Nat) => PyData.int (j : Int)) = _
    rw [hj]
    rfl
  rcases hx with rfl | rfl
  · have e : indexS x [x, b] = some 0 := if_pos rfl
    rw [show oth (x, b) x = b from if_pos rfl]
    refine h_ret (ρ1 := [some (.glt [.str x, .str b]), some (.dat (.str x))]) ?_ ⟨_, rfl⟩
    show (evE p Φ (.bin .sub (.lit (.int 1)) (.indexG (.var 0) (.var 1))) [some (.glt [.str x, .str b]), some (.dat (.str x))]).bind _ = _
    rw [g_sub x_lit (hi 0 e)]
    rfl
  · have e : indexS x [a, x] = some 1 := by
      show (if a = x then some 0 else (if x = x then some 0 else none).map (· + 1)) = _
      rw [if_neg hab, if_pos rfl]
      rfl
    rw [show oth (a, x) x = a from if_neg fun z => hab z.symm]
    refine h_ret (ρ1 := [some (.glt [.str a, .str x]), some (.dat (.str x))]) ?_ ⟨_, rfl⟩
    show (evE p Φ (.bin .sub (.lit (.int 1)) (.indexG (.var 0) (.var 1))) [some (.glt [.str a, .str x]), some (.dat (.str x))]).bind _ = _
    rw [g_sub x_lit (hi 1 e)]
    rfl
theorem k_other {i : Nat} {n : Str} {e : IE} {ρ : Env} {a b x : Str} (h : OtherOk Φ i) (hab : a ≠ b) (hx : x = a ∨ x = b) (he : V1 p Φ e ρ (.str x)) : V1 p Φ (.call i [.gt n [.str a, .str b], e]) ρ (.str (oth (a, b) x)) := by
  obtain ⟨ps, hp⟩ := h a b x hab hx
  refine g_callS (ss := [.glt [.str a, .str b], .dat (.str x)]) ?_ hp
  rw [evEs_cons]
  show (evEs p Φ [e] ρ).bind _ = _
  rw [evEs_cons, he]
  rfl
abbrev BkF (Φ : Orc) (i : Nat) (f : Bk → Bk) : Prop := ∀ b : Bk, BkOk b → ∃ ps, Φ i [.dat (bkD b)] = some (.ret (.dat (bkD (f b))) ps)
theorem mirrored_of_ok {co : Nat} (ho : OtherOk Φ co) (b : Bk) (h : BkOk b) : ∃ ps, runF p Φ (D_mirrored_of co) [.dat (bkD b)] = some (.ret (.dat (bkD (mirB b))) ps) := by
  refine rr rfl ?_
  refine h_asgT (ds := [.tuple [.str b.s, .str b.v], .tuple b.rs, .str b.w]) (x_var rfl) rfl ?_
  refine h_asgV (g_lc0 (xs := b.rs) (g := mirR) rfl (i_tup (x_var rfl)) rfl (by have := h.n; omega) fun r hr => ?_) ?_
  · obtain ⟨a1, a2, a3, a4, w, rfl, _, _⟩ := h.r r hr
    exact g_tup (wa_cons (ix_tup (v := 1) (x_var rfl) x_lit rfl rfl) (wa_cons (ix_tup (v := 0) (x_var rfl) x_lit rfl rfl) (wa_cons (ix_tup (v := 3) (x_var rfl) x_lit rfl rfl) (wa_cons (ix_tup (v := 2) (x_var rfl) x_lit rfl rfl) (wa_cons (ix_tup (v := 4) (x_var rfl) x_lit rfl rfl) wa_nil))))) rfl
  · exact h_ret (g_tup (wa_cons (g_tup (wa_cons (k_other ho (by decide) h.s (ix_tup (v := 0) (x_var rfl) x_lit rfl rfl)) (wa_cons (ix_tup (v := 1) (x_var rfl) x_lit rfl rfl) wa_nil)) rfl) (wa_cons (g_blt1 (g_own rfl) rfl rfl) (wa_cons (x_var rfl) wa_nil))) rfl) ⟨_, rfl⟩
theorem turned_over_of_ok {co : Nat} (ho : OtherOk Φ co) (b : Bk) (h : BkOk b) : ∃ ps, runF p Φ (D_turned_over_of co) [.dat (bkD b)] = some (.ret (.dat (bkD (ovrB b))) ps) := by
  refine rr rfl ?_
  refine h_asgT (ds := [.tuple [.str b.s, .str b.v], .tuple b.rs, .str b.w]) (x_var rfl) rfl ?_
  refine h_asgV (g_lc0 (xs := b.rs) (g := ovrR) rfl (i_tup (x_var rfl)) rfl (by have := h.n; omega) fun r hr => ?_) ?_
  · obtain ⟨a1, a2, a3, a4, w, rfl, _, _⟩ := h.r r hr
    exact g_tup (wa_cons (ix_tup (v := 2) (x_var rfl) x_lit rfl rfl) (wa_cons (ix_tup (v := 3) (x_var rfl) x_lit rfl rfl) (wa_cons (ix_tup (v := 0) (x_var rfl) x_lit rfl rfl) (wa_cons (ix_tup (v := 1) (x_var rfl) x_lit rfl rfl) (wa_cons (ix_tup (v := 4) (x_var rfl) x_lit rfl rfl) wa_nil))))) rfl
  · exact h_ret (g_tup (wa_cons (g_tup (wa_cons (ix_tup (v := 0) (x_var rfl) x_lit rfl rfl) (wa_cons (k_other ho (by decide) h.v (ix_tup (v := 1) (x_var rfl) x_lit rfl rfl)) wa_nil)) rfl) (wa_cons (g_blt1 (g_own rfl) rfl rfl) (wa_cons (x_var rfl) wa_nil))) rfl) ⟨_, rfl⟩
theorem side_of_ok {co : Nat} (ho : OtherOk Φ co) (b : Bk) (h : BkOk b) : ∃ ps, runF p Φ (D_side_of co) [.dat (bkD b)] = some (.ret (.dat (bkD (sidB b))) ps) := by
  refine rr rfl ?_
  refine h_asgT (ds := [.tuple [.str b.s, .str b.v], .tuple b.rs, .str b.w]) (x_var rfl) rfl ?_
  refine h_asgV (g_lc0 (xs := b.rs) (g := sidR) rfl (i_tup (x_var rfl)) rfl (by have := h.n; omega) fun r hr => ?_) ?_
  · obtain ⟨a1, a2, a3, a4, w, rfl, hw, _⟩ := h.r r hr
    exact g_tup (wa_cons (ix_tup (v := 0) (x_var rfl) x_lit rfl rfl) (wa_cons (ix_tup (v := 2) (x_var rfl) x_lit rfl rfl) (wa_cons (ix_tup (v := 1) (x_var rfl) x_lit rfl rfl) (wa_cons (ix_tup (v := 3) (x_var rfl) x_lit rfl rfl) (wa_cons (k_other ho (by decide) hw (ix_tup (v := 4) (x_var rfl) x_lit rfl rfl)) wa_nil))))) rfl
  · have hg1 : ∀ {ρ : Env}, getS ρ 1 = some (.dat (.tuple [.str b.s, .str b.v])) → V1 p Φ (.ix (.glb "SIDES" (.tuple [(.str "left"), (.str "right")])) (.indexG (.gt "HEIGHTS" [(.str "upper"), (.str "lower")]) (.ix (.var 1) (.lit (.int 1))))) ρ (.str (toS b.v)) := fun {ρ} hg => by
      have hi : V1 p Φ (.indexG (.gt "HEIGHTS" [(.str "upper"), (.str "lower")]) (.ix (.var 1) (.lit (.int 1)))) ρ (.int (if b.v = "upper" then 0 else 1)) := by
        show (evE p Φ (.ix (.var 1) (.lit (.int 1))) ρ).bind _ = _
        have e0 : V1 p Φ (.ix (.var 1) (.lit (.int 1))) ρ (.str b.v) := ix_tup (v := 1) (x_var hg) x_lit rfl rfl
        rw [e0]
        rcases h.v with e | e <;> rw [e] <;> rfl
      refine g_ix x_glb hi ?_
      rcases h.v with e | e <;> rw [e] <;> rfl
    have hg2 : ∀ {ρ : Env}, getS ρ 1 = some (.dat (.tuple [.str b.s, .str b.v])) → V1 p Φ (.ix (.glb "HEIGHTS" (.tuple [(.str "upper"), (.str "lower")])) (.indexG (.gt "SIDES" [(.str "left"), (.str "right")]) (.ix (.var 1) (.lit (.int 0))))) ρ (.str (toH b.s)) := fun {ρ} hg => by
      have hi : V1 p Φ (.indexG (.gt "SIDES" [(.str "left"), (.str "right")]) (.ix (.var 1) (.lit (.int 0)))) ρ (.int (if b.s = "left" then 0 else 1)) := by
        show (evE p Φ (.ix (.var 1) (.lit (.int 0))) ρ).bind _ = _
        have e0 : V1 p Φ (.ix (.var 1) (.lit (.int 0))) ρ (.str b.s) := ix_tup (v := 0) (x_var hg) x_lit rfl rfl
        rw [e0]
        rcases h.s with e | e <;> rw [e] <;> rfl
      refine g_ix x_glb hi ?_
      rcases h.s with e | e <;> rw [e] <;> rfl
    refine h_asg (g_tup (wa_cons (hg1 rfl) (wa_cons (hg2 rfl) wa_nil)) rfl) ?_
    exact h_ret (g_tup (wa_cons (x_var rfl) (wa_cons (g_blt1 (g_own rfl) rfl rfl) (wa_cons (k_other ho (by decide) h.w (x_var rfl)) wa_nil))) rfl) ⟨_, rfl⟩
/-! ### asked with anything -/
def NeedOk (Φ : Orc) (i kb : Nat) (f : PyData → Bool) : Prop := ∀ d, okD d = true → ∃ ps, Φ i [.dat d] = some (if f d = true then .ret (.dat .none) ps else .exc kb [] ps)
/-- need; return turned -/
def needRet (c1 c2 : Nat) : FnI := ⟨1, 1, [(.expr (.call c1 [(.var 0)])), (.ret (.call c2 [(.var 0)]))], [true]⟩
theorem need_ret_ok {cn cf kb : Nat} {f : Bk → Bk} (hn : NeedOk Φ cn kb bookB) (hf : BkF Φ cf f) (b : Bk) (h : BkOk b) : ∃ ps, runF p Φ (needRet cn cf) [.dat (bkD b)] = some (.ret (.dat (bkD (f b))) ps) := by
  obtain ⟨h1, h2, _, _⟩ := h.ok
  obtain ⟨ps, e⟩ := hn (bkD b) h1
  rw [if_pos h2] at e
  obtain ⟨ps2, e2⟩ := hf b h
  refine rr rfl (h_expr (g_call (wa_cons (x_var rfl) wa_nil) e) ?_)
  exact h_ret (g_call (wa_cons (x_var rfl) wa_nil) e2) ⟨_, rfl⟩
theorem need_ret_no {cn cf kb : Nat} (hn : NeedOk Φ cn kb bookB) (d : PyData) (h1 : okD d = true) (h2 : bookB d = false) : ∃ ps, runF p Φ (needRet cn cf) [.dat d] = some (.exc kb [] ps) := by
  obtain ⟨ps, e⟩ := hn d h1
  rw [if_neg (by rw [h2]; exact Bool.false_ne_true)] at e
  have key : ∃ fr, runF p Φ (needRet cn cf) [.dat d] = some fr ∧ ∃ ps, fr = .exc kb [] ps := r_of rfl (h_exprX (g_callX (wa_cons (x_var rfl) wa_nil) e) ⟨_, rfl, _, rfl⟩)
  obtain ⟨fr, h3, ps2, rfl⟩ := key
  exact ⟨ps2, h3⟩
end
end Mini
set_option maxHeartbeats 1000000
/-! Lib M: more rules; draws. -/
namespace Mini
open PySem L2
variable {p : Pg} {Φ : Orc} {ρ ρ0 ρ1 ρ2 ρ3 : Env} {a b c k e : IE} {x y z d kd : PyData} {i j n np : Nat} {s : IS} {ss t f : List IS} {Q : SRes → Prop} {r : Rv}
theorem g_binR {op : BOp} {v : Sv} {ra rb : Rv} (ha : evE p Φ a ρ = .ok ra ρ1) (hb : evE p Φ b ρ1 = .ok rb ρ2) (h : ((ra.data ρ2).bind fun x => (rb.data ρ2).bind fun y => binD op x y) = some v) : evE p Φ (.bin op a b) ρ = .ok (.val v) ρ2 := by
  show (evE p Φ a ρ).bind _ = _
  rw [ha]
  show (evE p Φ b ρ1).bind _ = _
  rw [hb]
  show svR ρ2 ((ra.data ρ2).bind fun x => (rb.data ρ2).bind fun y => binD op x y) = _
  rw [h]
  rfl
theorem h_retX {cl : Nat} {fs : List (Str × PyData)} (h : evE p Φ e ρ = .exc cl fs ρ1) (k : Q (.exc cl fs ρ1)) : Ht Q (evSs p Φ np (.ret e :: ss) ρ) := by
  rw [n_exc (cl := cl) (fs := fs) (ρ1 := ρ1) (by
    show (evE p Φ e ρ).st _ = _
    rw [h]
    rfl)]
  exact ⟨k⟩
theorem h_tryK {body hs is : List IS} {kk i x cl : Nat} {fs : List (Str × PyData)} (hb : Ht (fun r => r = .exc cl fs ρ1) (evSs p Φ np body ρ)) (hsub : p.sub cl kk = true) (hn : noExc ρ1 = true) (hh : evSs p Φ np hs (ρ1.set i (some (.exc cl fs))) = .nx ρ2)
    (k : Q (((evSs p Φ np is (ρ2.set i none)).leave x))) : Ht Q (evSs p Φ np [.tryK body kk i x hs is] ρ) := by
  constructor
  show Q ((match evSs p Φ np body ρ with
    | .nx ρ1 => evSs p Φ np is ρ1
    | .exc c fs ρ1 => if p.sub c kk then (if noExc ρ1 then (match evSs p Φ np hs (ρ1.set i (some (.exc c fs))) with
      | .nx ρ2 => (evSs p Φ np is (ρ2.set i none)).leave x
      | _ => .bad) else .bad) else .exc c fs ρ1
    | r => r).seq fun ρ => .nx ρ)
  rw [ht_eq hb]
  show Q ((if p.sub cl kk = true then (if noExc ρ1 = true then (match evSs p Φ np hs (ρ1.set i (some (.exc cl fs))) with
      | .nx ρ2 => (evSs p Φ np is (ρ2.set i none)).leave x
      | _ => .bad) else .bad) else .exc cl fs ρ1).seq fun ρ => .nx ρ)
  rw [if_pos hsub, if_pos hn, hh]
  show Q (((evSs p Φ np is (ρ2.set i none)).leave x).seq fun ρ => .nx ρ)
  have seq_nx : ∀ r : SRes, (r.seq fun ρ => SRes.nx ρ) = r := fun r => by cases r <;> rfl
  rw [seq_nx]
  exact k
/-- two slots' own things are handed over; the second comes back as it was -/
theorem g_lentL {f : Nat} {c c' d : Ct} {v : Sv} {ps : Env} {r : List Bool} (hi : getS ρ i = some (.own c)) (hj : getS ρ j = some (.own d)) (hij : i ≠ j) (hk : p.kp f = true :: true :: r) (h : Φ f [.own c, .own d] = some (.ret v (some (.own c') :: some (.own d) :: ps))) :
    evE p Φ (.call f [.var i, .var j]) ρ = .ok (.val v) (ρ.set i (some (.own c'))) := by
  show (evEs p Φ [.var i, .var j] ρ).bind _ = _
  rw [evEs_cons, g_own hi]
  show ((evEs p Φ [.var j] ρ).bind fun rs ρ => Res.ok (Rv.slot i :: rs) ρ).bind _ = _
  rw [evEs_cons, g_own hj]
  show callF Φ f (p.kp f) [.slot i, .slot j] ρ = _
  unfold callF
  have e : lend ρ [Rv.slot i, .slot j] (p.kp f) = some ([.own c, .own d], (ρ.set i none).set j none, [some i, some j]) := by
    rw [hk]
    show (match (match getS ρ i with
      | some (.dat d) => some (Sv.dat d, ρ, none)
      | some (.own c) => some (.own c, ρ.set i none, some i)
      | _ => none) with
      | none => none
      | some (s, ρ1, l) => match lend ρ1 [Rv.slot j] (true :: r) with
        | none => none
        | some (ss, ρ2, ls) => some (s :: ss, ρ2, l :: ls)) = _
    rw [hi]
    show (match (match (match getS (ρ.set i none) j with
      | some (.dat d) => some (Sv.dat d, (ρ.set i none), none)
      | some (.own c) => some (.own c, (ρ.set i none).set j none, some j)
      | _ => none) with
      | none => none
      | some (s, ρ1, l) => match lend ρ1 [] r with
        | none => none
        | some (ss, ρ2, ls) => some (s :: ss, ρ2, l :: ls)) with
        | none => none
        | some (ss, ρ2, ls) => some (Sv.own c :: ss, ρ2, some i :: ls)) = _
    rw [getS_set_ne (Ne.symm hij), hj]
    rfl
  rw [e]
  show (match Φ f [.own c, .own d] with
    | none => Res.bad
    | some (.ret s ps) => (match giveBack ((ρ.set i none).set j none) [some i, some j] ps with
      | some ρ2 => Res.ok (Rv.val s) ρ2
      | none => .bad)
    | some (.exc c fs ps) => (match giveBack ((ρ.set i none).set j none) [some i, some j] ps with
      | some ρ2 => .exc c fs ρ2
      | none => .bad)) = _
  rw [h]
  show Res.ok (Rv.val v) ((((ρ.set i none).set j none).set i (some (.own c'))).set j (some (.own d))) = _
  congr 1
  apply List.ext_getElem?
  intro m
  by_cases m1 : m = j
  · subst m1
    have hl := getS_lt hj
    rw [List.getElem?_set_self (by simpa using hl), List.getElem?_set_ne hij]
    unfold getS at hj
    rw [List.getElem?_eq_getElem hl] at hj ⊢
    exact (congrArg some hj).symm
  · rw [List.getElem?_set_ne (Ne.symm m1)]
    by_cases m2 : m = i
    · subst m2
      have hl := getS_lt hi
      rw [List.getElem?_set_self (by simpa using hl), List.getElem?_set_self hl]
    · rw [List.getElem?_set_ne (Ne.symm m2), List.getElem?_set_ne (Ne.symm m1), List.getElem?_set_ne (Ne.symm m2), List.getElem?_set_ne (Ne.symm m2)]
theorem rng1_evW {hi : Int} (ha : W1 p Φ a ρ (.int hi) ρ1) (ok : rngOk hi = true) : evI p Φ (.rng [a]) ρ = .ok ((List.range hi.toNat).map (fun (i : Nat) => PyData.int (0 + (i : Int))), none) ρ1 := by
  show (evEs p Φ [a] ρ).bind _ = _
  rw [evEs_cons, ha]
  show (match (if rngOk hi = true then some ((List.range hi.toNat).map fun (i : Nat) => PyData.int (0 + (i : Int))) else none) with
    | some xs => Res.ok (xs, (none : Option Nat)) ρ1
    | none => .bad) = _
  rw [if_pos ok]
/-- for i in range(hi), hi asked with draws -/
theorem h_rng1W {v : Nat} {body : List IS} {hi : Int} (Inv : Nat → Env → Prop) (ha : W1 p Φ a ρ (.int hi) ρ1) (ok : rngOk hi = true) (n : Nat) (hn : hi.toNat = n) (h0 : Inv 0 ρ1)
    (st : ∀ j, j < n → ∀ ρ, Inv j ρ → Ht (Turn Q (Inv (j + 1)) fun ρ' => Q (evSs p Φ np ss ρ')) (evSs p Φ np body (ρ.set v (some (.dat (.int (j : Int)))))))
    (k : ∀ ρ, Inv n ρ → Ht Q (evSs p Φ np ss ρ)) : Ht Q (evSs p Φ np (.forr (.name v) (.rng [a]) body :: ss) ρ) := by
  refine h_for Inv (rng1_evW ha ok) (fun _ _ _ => rfl) h0 (fun j x hx ρ hi => ⟨_, rfl, ?_⟩) fun ρ hi => k ρ ?_
  · rw [List.getElem?_map] at hx
    by_cases hj : j < n
    · rw [hn, List.getElem?_range hj] at hx
      cases hx
      have := st j hj ρ hi
      rw [← Int.zero_add (j : Int)] at this
      exact this
    · rw [hn, List.getElem?_eq_none (by rw [List.length_range]; omega)] at hx
      cases hx
  · rw [List.length_map, List.length_range, hn] at hi
    exact hi
/-- [e for v in it], the slots change from turn to turn -/
theorem g_lcS {v : Nat} {it : II} {xs : List PyData} (P : Nat → List PyData → Env → Prop) (hv : ρ1[v]? = some none) (hi : evI p Φ it ρ = .ok (xs, none) ρ1) (hl : xs.length ≤ 1000000) (h0 : P 0 [] ρ1)
    (st : ∀ j x acc ρ, xs[j]? = some x → P j acc ρ → ∃ d ρ', evE p Φ e (ρ.set v (some (.dat x))) = .ok (.val (.dat d)) ρ' ∧ P (j + 1) (acc ++ [d]) (ρ'.set v none)) (hP : ∀ j acc ρ, P j acc ρ → acc.length = j ∧ ρ[v]? = some none) :
    ∃ acc ρ', P xs.length acc ρ' ∧ evE p Φ (.lc (.name v) [v] it [] e) ρ = .ok (.val (.own (.lst acc))) ρ' := by
  have g0 : getS ρ1 v = none := by
    unfold getS
    rw [hv]
    rfl
  have go : ∀ (ys zs : List PyData) (acc : List PyData) (ρ' : Env), xs = zs ++ ys → P zs.length acc (ρ'.set v none) → ∃ acc' ρ2, foldR (fun ρ1 => guardOk (wipeE ρ1 [v]) xs none) (fun acc x ρ1 => match asgT (.name v) x (wipeE ρ1 [v]) with
      | none => .bad
      | some ρ2 => (evC p Φ [] ρ2).bind fun b ρ3 => if b = true then (evE p Φ e ρ3).bind fun r ρ4 => (match frz ρ4 r with
        | some (d, ρ5) => if fitN acc.length = true then .ok (acc ++ [d]) ρ5 else .bad
        | none => .bad) else .ok acc ρ3) ys acc ρ' = .ok acc' ρ2 ∧ P xs.length acc' (ρ2.set v none) := by
    intro ys
    induction ys with
    | nil =>
      intro zs acc ρ' h1 h2
      refine ⟨acc, ρ', rfl, ?_⟩
      rw [List.append_nil] at h1
      rw [h1]
      exact h2
    | cons y ys ih =>
      intro zs acc ρ' h1 h2
      have hx : xs[zs.length]? = some y := by rw [h1, List.getElem?_append_right (Nat.le_refl _), Nat.sub_self]; rfl
      obtain ⟨d, ρ3, e1, h3⟩ := st zs.length y acc _ hx h2
      obtain ⟨l1, _⟩ := hP _ _ _ h2
      have step : (match asgT (.name v) y (wipeE ρ' [v]) with
        | none => Res.bad
        | some ρ2 => (evC p Φ [] ρ2).bind fun b ρ3 => if b = true then (evE p Φ e ρ3).bind fun r ρ4 => (match frz ρ4 r with
          | some (d, ρ5) => if fitN acc.length = true then Res.ok (acc ++ [d]) ρ5 else .bad
          | none => .bad) else .ok acc ρ3) = .ok (acc ++ [d]) ρ3 := by
        show (evE p Φ e ((ρ'.set v none).set v (some (.dat y)))).bind _ = _
        rw [e1]
        show (if fitN acc.length = true then Res.ok (acc ++ [d]) ρ3 else .bad) = _
        have : zs.length ≤ xs.length := by rw [h1, List.length_append]; omega
        exact if_pos (decide_eq_true (by omega))
      obtain ⟨acc', ρ2, h4, h5⟩ := ih (zs ++ [y]) (acc ++ [d]) ρ3 (by rw [h1, List.append_assoc]; rfl) (by rw [List.length_append]; exact h3)
      refine ⟨acc', ρ2, ?_, h5⟩
      show (if true = true then (_ : Res (List PyData)).bind _ else .bad) = _
      rw [if_pos rfl]
      refine (congrArg (fun r : Res (List PyData) => r.bind _) step).trans ?_
      exact h4
  obtain ⟨acc, ρ2, h1, h2⟩ := go xs [] [] ρ1 rfl (by rw [set_none hv]; exact h0)
  refine ⟨acc, ρ2.set v none, h2, ?_⟩
  show (evI p Φ it ρ).bind _ = _
  rw [hi]
  show (match foldR _ _ xs [] (ρ1.set v none) with
    | .ok acc ρ2 => Res.ok (Rv.val (.own (.lst acc))) (ρ2.set v (getS ρ1 v))
    | _ => .bad) = _
  rw [set_none hv]
  have key := congrArg (fun r : Res (List PyData) => (match r with
    | .ok acc ρ2 => Res.ok (Rv.val (.own (.lst acc))) (ρ2.set v (getS ρ1 v))
    | _ => .bad : Res Rv)) h1
  refine Eq.trans ?_ (key.trans ?_)
  · rfl
  · show Res.ok (Rv.val (.own (.lst acc))) (ρ2.set v (getS ρ1 v)) = _
    rw [g0]
/-! ### callees that draw -/
def DrawOk (Φ : Orc) (i : Nat) : Prop := ∀ (N : Nat) (c : Ct) (m : Int), Fd N c → N < 10000000 → 0 < m → m ≤ 1000000 → ∃ (v : Int) (c' : Ct), Φ i [.own c, .dat (.int m)] = some (.ret (.dat (.int v)) [some (.own c'), I m]) ∧ 0 ≤ v ∧ v < m ∧ Fd (N + 1) c'
def OneOk (Φ : Orc) (i : Nat) : Prop := (∀ (N : Nat) (c : Ct) (xs : List PyData), Fd N c → N < 10000000 → xs ≠ [] → xs.length ≤ 1000000 → ∃ (y : PyData) (c' : Ct), Φ i [.own c, .own (.lst xs)] = some (.ret (.dat y) [some (.own c'), some (.own (.lst xs))]) ∧ y ∈ xs ∧ Fd (N + 1) c') ∧
  ∀ (N : Nat) (c : Ct) (xs : List PyData) (x : PyData), (x = .list xs ∨ x = .tuple xs) → Fd N c → N < 10000000 → xs ≠ [] → xs.length ≤ 1000000 → ∃ (y : PyData) (c' : Ct), Φ i [.own c, .dat x] = some (.ret (.dat y) [some (.own c'), some (.dat x)]) ∧ y ∈ xs ∧ Fd (N + 1) c'
theorem one_of {iD : Nat} (hk : (p.kp iD).headD false = true) (h : DrawOk Φ iD) : OneOk (fun _ vs => runF p Φ (dOne iD) vs) 0 :=
  ⟨fun N c xs hc hN h0 hl => one_okL hk (fun m h1 h2 => h N c m hc hN h1 h2) h0 hl, fun N c xs x hx hc hN h0 hl => one_ok hx hk (fun m h1 h2 => h N c m hc hN h1 h2) h0 hl⟩
/-- one of a list that is made in the call -/
theorem g_one {iO N : Nat} {c : Ct} {es : List IE} {xs : List PyData} (ho : OneOk Φ iO) (hk : (p.kp iO).headD false = true) (hi : getS ρ i = some (.own c)) (ha : WA p Φ es ρ xs ρ) (hc : Fd N c) (hN : N < 10000000) (h0 : xs ≠ []) (hl : xs.length ≤ 1000000) :
    ∃ (y : PyData) (c' : Ct), W1 p Φ (.call iO [.var i, .lst es]) ρ y (ρ.set i (some (.own c'))) ∧ y ∈ xs ∧ Fd (N + 1) c' := by
  obtain ⟨y, c', h1, h2, h3⟩ := ho.1 N c xs hc hN h0 hl
  exact ⟨y, c', g_lent (v2 := .own (.lst xs)) hi hk (g_own hi) (g_lst ha (decide_eq_true hl)) h1, h2, h3⟩
theorem g_draw {iD N : Nat} {c : Ct} {m : Int} (hd : DrawOk Φ iD) (hk : (p.kp iD).headD false = true) (hi : getS ρ i = some (.own c)) (ha : V1 p Φ e ρ (.int m)) (hc : Fd N c) (hN : N < 10000000) (h0 : 0 < m) (hl : m ≤ 1000000) :
    ∃ (v : Int) (c' : Ct), W1 p Φ (.call iD [.var i, e]) ρ (.int v) (ρ.set i (some (.own c'))) ∧ 0 ≤ v ∧ v < m ∧ Fd (N + 1) c' := by
  obtain ⟨y, c', h1, h2, h3, h4⟩ := hd N c m hc hN h0 hl
  exact ⟨y, c', g_lent hi hk (g_own hi) ha h1, h2, h3, h4⟩
/-- one of a list that is made in the call, in whatever way -/
theorem g_oneE {iO N : Nat} {c : Ct} {xs : List PyData} (ho : OneOk Φ iO) (hk : (p.kp iO).headD false = true) (h0' : getS ρ i = some (.own c)) (hb : evE p Φ e ρ = .ok (.val (.own (.lst xs))) ρ1) (hi : getS ρ1 i = some (.own c)) (hc : Fd N c) (hN : N < 10000000) (h0 : xs ≠ []) (hl : xs.length ≤ 1000000) :
    ∃ (y : PyData) (c' : Ct), W1 p Φ (.call iO [.var i, e]) ρ y (ρ1.set i (some (.own c'))) ∧ y ∈ xs ∧ Fd (N + 1) c' := by
  obtain ⟨y, c', h1, h2, h3⟩ := ho.1 N c xs hc hN h0 hl
  exact ⟨y, c', g_lent (v2 := .own (.lst xs)) hi hk (g_own h0') hb h1, h2, h3⟩
/-- one of a slot's own list -/
theorem g_oneL {iO N : Nat} {c : Ct} {xs : List PyData} {r : List Bool} (ho : OneOk Φ iO) (hk : p.kp iO = true :: true :: r) (hi : getS ρ i = some (.own c)) (hj : getS ρ j = some (.own (.lst xs))) (hij : i ≠ j) (hc : Fd N c) (hN : N < 10000000) (h0 : xs ≠ []) (hl : xs.length ≤ 1000000) :
    ∃ (y : PyData) (c' : Ct), W1 p Φ (.call iO [.var i, .var j]) ρ y (ρ.set i (some (.own c'))) ∧ y ∈ xs ∧ Fd (N + 1) c' := by
  obtain ⟨y, c', h1, h2, h3⟩ := ho.1 N c xs hc hN h0 hl
  exact ⟨y, c', g_lentL hi hj hij hk h1, h2, h3⟩
/-! ### slices -/
theorem cut_take (xs : List PyData) (m : Nat) : cutD xs none (some (m : Int)) = xs.take m := by
  unfold cutD
  rw [HT.sIx_nat]
  show (xs.drop 0).take (min m xs.length - 0) = _
  rw [List.drop_zero, Nat.sub_zero]
  by_cases h : m ≤ xs.length
  · rw [Nat.min_eq_left h]
  · rw [Nat.min_eq_right (by omega), List.take_of_length_le (by omega), List.take_of_length_le (by omega)]
theorem cut_drop (xs : List PyData) (m : Nat) : cutD xs (some (m : Int)) none = xs.drop m := by
  unfold cutD
  rw [HT.sIx_nat]
  show (xs.drop (min m xs.length)).take (xs.length - min m xs.length) = _
  by_cases h : m ≤ xs.length
  · rw [Nat.min_eq_left h, List.take_of_length_le (by rw [List.length_drop]; omega)]
  · rw [Nat.min_eq_right (by omega), List.drop_of_length_le (by omega), List.drop_of_length_le (by omega), List.take_nil]
theorem evO_none : evO p Φ none ρ = .ok none ρ := rfl
theorem evO_int {v : Int} (h : W1 p Φ e ρ (.int v) ρ1) : evO p Φ (some e) ρ = .ok (some v) ρ1 := by
  show (evE p Φ e ρ).bind _ = _
  rw [h]
  rfl
theorem g_slcT {xs : List PyData} {lo hi : Option IE} {l h : Option Int} (ha : W1 p Φ a ρ (.tuple xs) ρ1) (hl : evO p Φ lo ρ1 = .ok l ρ2) (hh : evO p Φ hi ρ2 = .ok h ρ3) : W1 p Φ (.slc a lo hi) ρ (.tuple (cutD xs l h)) ρ3 := by
  show (evE p Φ a ρ).bind _ = _
  rw [ha]
  show (evO p Φ lo ρ1).bind _ = _
  rw [hl]
  show (evO p Φ hi ρ2).bind _ = _
  rw [hh]
  rfl
theorem g_take {xs : List PyData} {m : Nat} (ha : W1 p Φ a ρ (.tuple xs) ρ1) (hh : W1 p Φ e ρ1 (.int (m : Int)) ρ2) : W1 p Φ (.slc a none (some e)) ρ (.tuple (xs.take m)) ρ2 := by
  rw [← cut_take]
  exact g_slcT ha evO_none (evO_int hh)
theorem g_drop {xs : List PyData} {m : Nat} (ha : W1 p Φ a ρ (.tuple xs) ρ1) (hh : W1 p Φ e ρ1 (.int (m : Int)) ρ2) : W1 p Φ (.slc a (some e) none) ρ (.tuple (xs.drop m)) ρ2 := by
  rw [← cut_drop]
  exact g_slcT ha (evO_int hh) evO_none
theorem g_addT {xs ys : List PyData} (ha : W1 p Φ a ρ (.tuple xs) ρ1) (hb : W1 p Φ b ρ1 (.tuple ys) ρ2) (hl : xs.length + ys.length ≤ 1000000) : W1 p Φ (.bin .add a b) ρ (.tuple (xs ++ ys)) ρ2 := g_bin ha hb (if_pos (decide_eq_true hl))
end Mini
set_option maxHeartbeats 4000000
namespace K50
open PySem L2 Mini
def top (i : Nat) : Stmt := PySem.Challenge.pw_brushedsigns_k50_mirrored_books.main.body.getD i (.Pass ⟨0, 0, 0, 0⟩)
def cn : List Str := "SignError" :: "BadBook" :: []
def tab : List (List Bool) := [[true, false], [true, true]]
abbrev N0 : List Str := ["thing", "least", "most"]
abbrev P0 : List Str := ["thing", "least", "most"]
abbrev sc0 : Scope := defScope (top 4)
def d0 : FnI := ⟨3, 3, [(.ret (.and (.isi (.var 0) .tuple) (.chain .le .le (.var 1) (.blt .len [(.var 0)]) (.var 2))))], [true, true, true]⟩
theorem nd0 : N0.Nodup := by decide +kernel
theorem fs0 : FnScope N0 P0 sc0 := ⟨rfl, rfl, rfl, nd0, rfl, by decide +kernel, by decide +kernel⟩
abbrev N1 : List Str := ["thing", "sign"]
abbrev P1 : List Str := ["thing"]
abbrev sc1 : Scope := defScope (top 5)
def d1 : FnI := ⟨1, 2, [(.ifs (.or (.not (.isi (.var 0) .str)) (.not (.chain .le .le (.lit (.int 1)) (.blt .len [(.var 0)]) (.glb "MOST_SIGNS" (.int 8))))) [(.ret (.lit (.bool false)))] []), (.ret (.and (.cmp .inn (.ix (.var 0) (.lit (.int 0))) (.glb "LETTERS" (.str "abcdefghijklmnopqrstuvwxyz"))) (.blt .all [(.lc (.name 1) [1] (.val (.var 0)) [] (.or (.cmp .inn (.var 1) (.glb "LETTERS" (.str "abcdefghijklmnopqrstuvwxyz"))) (.cmp .inn (.var 1) (.glb "DIGITS" (.str "0123456789")))))])))], [true]⟩
theorem nd1 : N1.Nodup := by decide +kernel
theorem fs1 : FnScope N1 P1 sc1 := ⟨rfl, rfl, rfl, nd1, rfl, by decide +kernel, by decide +kernel⟩
abbrev N2 : List Str := ["thing", "words"]
abbrev P2 : List Str := ["thing", "words"]
abbrev sc2 : Scope := defScope (top 13)
def d2 : FnI := ⟨2, 2, [(.ret (.and (.isi (.var 0) .str) (.cmp .inn (.var 0) (.var 1))))], [true, true]⟩
theorem nd2 : N2.Nodup := by decide +kernel
theorem fs2 : FnScope N2 P2 sc2 := ⟨rfl, rfl, rfl, nd2, rfl, by decide +kernel, by decide +kernel⟩
abbrev N3 : List Str := ["thing"]
abbrev P3 : List Str := ["thing"]
abbrev sc3 : Scope := defScope (top 14)
def d3 : FnI := ⟨1, 1, [(.ret (.and (.call 0 [(.var 0), (.lit (.int 2)), (.lit (.int 2))]) (.and (.call 2 [(.ix (.var 0) (.lit (.int 0))), (.glb "SIDES" (.tuple [(.str "left"), (.str "right")]))]) (.call 2 [(.ix (.var 0) (.lit (.int 1))), (.glb "HEIGHTS" (.tuple [(.str "upper"), (.str "lower")]))]))))], [true]⟩
theorem nd3 : N3.Nodup := by decide +kernel
theorem fs3 : FnScope N3 P3 sc3 := ⟨rfl, rfl, rfl, nd3, rfl, by decide +kernel, by decide +kernel⟩
abbrev N4 : List Str := ["thing"]
abbrev P4 : List Str := ["thing"]
abbrev sc4 : Scope := defScope (top 17)
def d4 : FnI := ⟨1, 1, [(.ret (.or (.isN (.var 0)) (.call 1 [(.var 0)])))], [true]⟩
theorem nd4 : N4.Nodup := by decide +kernel
theorem fs4 : FnScope N4 P4 sc4 := ⟨rfl, rfl, rfl, nd4, rfl, by decide +kernel, by decide +kernel⟩
abbrev N5 : List Str := ["thing", "want"]
abbrev P5 : List Str := ["thing"]
abbrev sc5 : Scope := defScope (top 18)
def d5 : FnI := ⟨1, 2, [(.ifs (.or (.not (.call 0 [(.var 0), (.lit (.int 5)), (.lit (.int 5))])) (.not (.call 2 [(.ix (.var 0) (.lit (.int 4))), (.glb "WORDS" (.tuple [(.str "across"), (.str "down")]))]))) [(.ret (.lit (.bool false)))] []), (.ret (.blt .all [(.lc (.name 1) [1] (.val (.slc (.var 0) none (some (.lit (.int 4))))) [] (.call 4 [(.var 1)]))]))], [true]⟩
theorem nd5 : N5.Nodup := by decide +kernel
theorem fs5 : FnScope N5 P5 sc5 := ⟨rfl, rfl, rfl, nd5, rfl, by decide +kernel, by decide +kernel⟩
abbrev N6 : List Str := ["thing", "rule"]
abbrev P6 : List Str := ["thing"]
abbrev sc6 : Scope := defScope (top 19)
def d6 : FnI := ⟨1, 2, [(.ifs (.or (.not (.call 0 [(.var 0), (.lit (.int 3)), (.lit (.int 3))])) (.or (.not (.call 3 [(.ix (.var 0) (.lit (.int 0)))])) (.not (.call 2 [(.ix (.var 0) (.lit (.int 2))), (.glb "WORDS" (.tuple [(.str "across"), (.str "down")]))])))) [(.ret (.lit (.bool false)))] []), (.ret (.and (.call 0 [(.ix (.var 0) (.lit (.int 1))), (.lit (.int 0)), (.glb "MOST_RULES" (.int 30))]) (.blt .all [(.lc (.name 1) [1] (.val (.ix (.var 0) (.lit (.int 1)))) [] (.call 5 [(.var 1)]))])))], [true]⟩
theorem nd6 : N6.Nodup := by decide +kernel
theorem fs6 : FnScope N6 P6 sc6 := ⟨rfl, rfl, rfl, nd6, rfl, by decide +kernel, by decide +kernel⟩
abbrev N7 : List Str := ["book"]
abbrev P7 : List Str := ["book"]
abbrev sc7 : Scope := defScope (top 21)
def d7 : FnI := ⟨1, 1, [(.ifs (.not (.call 6 [(.var 0)])) [(.raise 1 [])] [])], [true]⟩
theorem nd7 : N7.Nodup := by decide +kernel
theorem fs7 : FnScope N7 P7 sc7 := ⟨rfl, rfl, rfl, nd7, rfl, by decide +kernel, by decide +kernel⟩
abbrev N8 : List Str := ["words", "word"]
abbrev P8 : List Str := ["words", "word"]
abbrev sc8 : Scope := defScope (top 23)
def d8 : FnI := ⟨2, 2, [(.ret (.ix (.var 0) (.bin .sub (.lit (.int 1)) (.indexG (.var 0) (.var 1)))))], [true, true]⟩
theorem nd8 : N8.Nodup := by decide +kernel
theorem fs8 : FnScope N8 P8 sc8 := ⟨rfl, rfl, rfl, nd8, rfl, by decide +kernel, by decide +kernel⟩
abbrev N9 : List Str := ["book", "hand", "rules", "word", "turned", "rule"]
abbrev P9 : List Str := ["book"]
abbrev sc9 : Scope := defScope (top 24)
def d9 : FnI := ⟨1, 6, [(.asg (.tup [(.name 1), (.name 2), (.name 3)]) (.var 0)), (.asg (.name 4) (.lc (.name 5) [5] (.val (.var 2)) [] (.tup [(.ix (.var 5) (.lit (.int 1))), (.ix (.var 5) (.lit (.int 0))), (.ix (.var 5) (.lit (.int 3))), (.ix (.var 5) (.lit (.int 2))), (.ix (.var 5) (.lit (.int 4)))]))), (.ret (.tup [(.tup [(.call 8 [(.gt "SIDES" [(.str "left"), (.str "right")]), (.ix (.var 1) (.lit (.int 0)))]), (.ix (.var 1) (.lit (.int 1)))]), (.blt .tuple [(.var 4)]), (.var 3)]))], [true]⟩
theorem nd9 : N9.Nodup := by decide +kernel
theorem fs9 : FnScope N9 P9 sc9 := ⟨rfl, rfl, rfl, nd9, rfl, by decide +kernel, by decide +kernel⟩
abbrev N10 : List Str := ["book", "hand", "rules", "word", "turned", "rule"]
abbrev P10 : List Str := ["book"]
abbrev sc10 : Scope := defScope (top 25)
def d10 : FnI := ⟨1, 6, [(.asg (.tup [(.name 1), (.name 2), (.name 3)]) (.var 0)), (.asg (.name 4) (.lc (.name 5) [5] (.val (.var 2)) [] (.tup [(.ix (.var 5) (.lit (.int 2))), (.ix (.var 5) (.lit (.int 3))), (.ix (.var 5) (.lit (.int 0))), (.ix (.var 5) (.lit (.int 1))), (.ix (.var 5) (.lit (.int 4)))]))), (.ret (.tup [(.tup [(.ix (.var 1) (.lit (.int 0))), (.call 8 [(.gt "HEIGHTS" [(.str "upper"), (.str "lower")]), (.ix (.var 1) (.lit (.int 1)))])]), (.blt .tuple [(.var 4)]), (.var 3)]))], [true]⟩
theorem nd10 : N10.Nodup := by decide +kernel
theorem fs10 : FnScope N10 P10 sc10 := ⟨rfl, rfl, rfl, nd10, rfl, by decide +kernel, by decide +kernel⟩
abbrev N11 : List Str := ["book", "hand", "rules", "word", "turned", "rule", "sides"]
abbrev P11 : List Str := ["book"]
abbrev sc11 : Scope := defScope (top 26)
def d11 : FnI := ⟨1, 7, [(.asg (.tup [(.name 1), (.name 2), (.name 3)]) (.var 0)), (.asg (.name 4) (.lc (.name 5) [5] (.val (.var 2)) [] (.tup [(.ix (.var 5) (.lit (.int 0))), (.ix (.var 5) (.lit (.int 2))), (.ix (.var 5) (.lit (.int 1))), (.ix (.var 5) (.lit (.int 3))), (.call 8 [(.gt "WORDS" [(.str "across"), (.str "down")]), (.ix (.var 5) (.lit (.int 4)))])]))), (.asg (.name 6) (.tup [(.ix (.glb "SIDES" (.tuple [(.str "left"), (.str "right")])) (.indexG (.gt "HEIGHTS" [(.str "upper"), (.str "lower")]) (.ix (.var 1) (.lit (.int 1))))), (.ix (.glb "HEIGHTS" (.tuple [(.str "upper"), (.str "lower")])) (.indexG (.gt "SIDES" [(.str "left"), (.str "right")]) (.ix (.var 1) (.lit (.int 0)))))])), (.ret (.tup [(.var 6), (.blt .tuple [(.var 4)]), (.call 8 [(.gt "WORDS" [(.str "across"), (.str "down")]), (.var 3)])]))], [true]⟩
theorem nd11 : N11.Nodup := by decide +kernel
theorem fs11 : FnScope N11 P11 sc11 := ⟨rfl, rfl, rfl, nd11, rfl, by decide +kernel, by decide +kernel⟩
abbrev N12 : List Str := ["book"]
abbrev P12 : List Str := ["book"]
abbrev sc12 : Scope := defScope (top 28)
def d12 : FnI := ⟨1, 1, [(.expr (.call 7 [(.var 0)])), (.ret (.call 9 [(.var 0)]))], [true]⟩
theorem nd12 : N12.Nodup := by decide +kernel
theorem fs12 : FnScope N12 P12 sc12 := ⟨rfl, rfl, rfl, nd12, rfl, by decide +kernel, by decide +kernel⟩
abbrev N13 : List Str := ["book"]
abbrev P13 : List Str := ["book"]
abbrev sc13 : Scope := defScope (top 29)
def d13 : FnI := ⟨1, 1, [(.expr (.call 7 [(.var 0)])), (.ret (.call 10 [(.var 0)]))], [true]⟩
theorem nd13 : N13.Nodup := by decide +kernel
theorem fs13 : FnScope N13 P13 sc13 := ⟨rfl, rfl, rfl, nd13, rfl, by decide +kernel, by decide +kernel⟩
abbrev N14 : List Str := ["book"]
abbrev P14 : List Str := ["book"]
abbrev sc14 : Scope := defScope (top 30)
def d14 : FnI := ⟨1, 1, [(.expr (.call 7 [(.var 0)])), (.ret (.call 11 [(.var 0)]))], [true]⟩
theorem nd14 : N14.Nodup := by decide +kernel
theorem fs14 : FnScope N14 P14 sc14 := ⟨rfl, rfl, rfl, nd14, rfl, by decide +kernel, by decide +kernel⟩
abbrev N15 : List Str := ["_law_script", "_law_k", "_law_cell"]
abbrev P15 : List Str := ["_law_script", "_law_k"]
abbrev sc15 : Scope := defScope (top 32)
def d15 : FnI := ⟨2, 3, [(.asg (.name 2) (.bin .add (.bin .mul (.lit (.int 977)) (.var 1)) (.blt .sum [(.slc (.var 0) none (some (.lit (.int 1))))]))), (.ifs (.cmp .lt (.var 1) (.blt .len [(.var 0)])) [(.asg (.name 2) (.ix (.var 0) (.var 1)))] []), (.ret (.lst [(.blt .max [(.lit (.int 0)), (.bin .sub (.var 2) (.bin .pow (.lit (.int 10)) (.lit (.int 18))))]), (.bin .mod (.blt .int [(.bin .add (.bin .mul (.var 2) (.lit (.int 19))) (.bin .mul (.lit (.int 7)) (.var 1)))]) (.bin .add (.bin .pow (.lit (.int 10)) (.lit (.int 39))) (.lit (.int 23)))), (.lit (.int 0))]))], [true, true]⟩
theorem nd15 : N15.Nodup := by decide +kernel
theorem fs15 : FnScope N15 P15 sc15 := ⟨rfl, rfl, rfl, nd15, rfl, by decide +kernel, by decide +kernel⟩
abbrev N16 : List Str := ["_law_feed_here", "_law_many", "_law_rest", "_law_got", "_law_stir"]
abbrev P16 : List Str := ["_law_feed_here", "_law_many"]
abbrev sc16 : Scope := defScope (top 33)
def d16 : FnI := ⟨2, 5, [(.ifs (.cmp .gt (.ix (.var 0) (.lit (.int 0))) (.lit (.int 0))) [(.asg (.name 2) (.bin .fdiv (.ix (.var 0) (.lit (.int 0))) (.var 1))), (.asg (.name 3) (.bin .sub (.ix (.var 0) (.lit (.int 0))) (.bin .mul (.var 2) (.var 1)))), (.setIx 0 (.lit (.int 0)) (.var 2)), (.ret (.var 3))] []), (.setIx 0 (.lit (.int 2)) (.bin .add (.ix (.var 0) (.lit (.int 2))) (.lit (.int 1)))), (.asg (.name 4) (.bin .add (.ix (.var 0) (.lit (.int 1))) (.bin .mul (.lit (.int 6700417)) (.ix (.var 0) (.lit (.int 2)))))), (.asg (.name 4) (.bin .mod (.blt .int [(.bin .add (.bin .mul (.bin .mul (.var 4) (.var 4)) (.var 4)) (.bin .mul (.lit (.int 15485863)) (.ix (.var 0) (.lit (.int 2)))))]) (.bin .add (.bin .pow (.lit (.int 10)) (.lit (.int 43))) (.lit (.int 57))))), (.asg (.name 4) (.bin .mod (.blt .int [(.bin .add (.bin .mul (.var 4) (.var 4)) (.lit (.int 32452843)))]) (.bin .add (.bin .pow (.lit (.int 10)) (.lit (.int 38))) (.lit (.int 133))))), (.ret (.bin .mod (.blt .int [(.bin .fdiv (.var 4) (.bin .pow (.lit (.int 10)) (.lit (.int 9))))]) (.var 1)))], [true, true]⟩
theorem nd16 : N16.Nodup := by decide +kernel
theorem fs16 : FnScope N16 P16 sc16 := ⟨rfl, rfl, rfl, nd16, rfl, by decide +kernel, by decide +kernel⟩
abbrev N17 : List Str := ["_law_feed_here", "_law_things"]
abbrev P17 : List Str := ["_law_feed_here", "_law_things"]
abbrev sc17 : Scope := defScope (top 34)
def d17 : FnI := ⟨2, 2, [(.ret (.ix (.var 1) (.call 16 [(.var 0), (.blt .len [(.var 1)])])))], [true, true]⟩
theorem nd17 : N17.Nodup := by decide +kernel
theorem fs17 : FnScope N17 P17 sc17 := ⟨rfl, rfl, rfl, nd17, rfl, by decide +kernel, by decide +kernel⟩
abbrev N18 : List Str := ["_law_feed_here", "_law_things", "_law_pool", "_law_got", "_law_turn"]
abbrev P18 : List Str := ["_law_feed_here", "_law_things"]
abbrev sc18 : Scope := defScope (top 35)
def d18 : FnI := ⟨2, 5, [(.par [2, 3] [(.blt .list [(.var 1)]), (.lst [])]), (.forr (.name 4) (.rng [(.blt .len [(.var 1)])]) [(.app 3 (.pop 2 [(.call 16 [(.var 0), (.blt .len [(.var 2)])])]))]), (.ret (.var 3))], [true, true]⟩
theorem nd18 : N18.Nodup := by decide +kernel
theorem fs18 : FnScope N18 P18 sc18 := ⟨rfl, rfl, rfl, nd18, rfl, by decide +kernel, by decide +kernel⟩
abbrev N19 : List Str := ["_law_feed_here", "_law_book", "_law_hand", "_law_rules", "_law_word", "_law_odd", "_law_some", "_law_four", "_law_kind", "_law_at", "_law_bent", "_law_bad", "_law_spot"]
abbrev P19 : List Str := ["_law_feed_here", "_law_book"]
abbrev sc19 : Scope := defScope (top 36)
def d19 : FnI := ⟨2, 13, [(.asg (.tup [(.name 2), (.name 3), (.name 4)]) (.var 1)), (.asg (.name 5) (.call 17 [(.var 0), (.lst [(.lit (.str "Across")), (.lit (.str "left")), (.lit (.str "")), (.lit .none), (.lit (.int 0)), (.lit (.bool true)), (.tup [(.lit (.str "across"))]), (.lst [(.lit (.str "down"))]), (.lit (.str "acrossdown"))])])), (.asg (.name 6) (.lst [(.lit .none), (.blt .list [(.var 1)]), (.tup [(.var 2), (.var 3)]), (.bin .add (.var 1) (.tup [(.var 4)])), (.tup [(.var 2), (.blt .list [(.var 3)]), (.var 4)]), (.tup [(.var 2), (.var 3), (.var 5)]), (.tup [(.var 2), (.lit .none), (.var 4)]), (.lit (.int 5)), (.lit (.str "")), (.dic false [])])), (.asg (.name 6) (.bin .add (.var 6) (.lst [(.tup [(.rev (.var 2)), (.var 3), (.var 4)]), (.tup [(.slc (.var 2) none (some (.lit (.int 1)))), (.var 3), (.var 4)]), (.tup [(.blt .list [(.var 2)]), (.var 3), (.var 4)]), (.tup [(.tup [(.lit (.str "left")), (.lit (.str "left"))]), (.var 3), (.var 4)]), (.tup [(.lit (.str "left")), (.var 3), (.var 4)])]))), (.asg (.name 6) (.bin .add (.var 6) (.lst [(.tup [(.tup [(.lit (.str "upper")), (.lit (.str "lower"))]), (.var 3), (.var 4)]), (.tup [(.tup [(.lit (.str "Left")), (.lit (.str "upper"))]), (.var 3), (.var 4)]), (.tup [(.lit .none), (.var 3), (.var 4)]), (.tup [(.bin .add (.var 2) (.tup [(.lit (.str "upper"))])), (.var 3), (.var 4)])]))), (.asg (.name 7) (.tup [(.lit (.str "k")), (.lit .none), (.lit (.str "k2")), (.lit .none), (.lit (.str "down"))])), (.asg (.name 8) (.call 17 [(.var 0), (.lst [(.lit (.str "K")), (.lit (.str "")), (.lit (.str "1k")), (.lit (.str "abcdefghi")), (.lit (.int 0)), (.lit (.bool true)), (.tup [(.lit (.str "k"))]), (.lst [(.lit (.str "k"))]), (.lit (.str "a b")), (.lit (.str "_k"))])])), (.asg (.name 9) (.call 16 [(.var 0), (.lit (.int 4))])), (.asg (.name 10) (.lst [(.bin .add (.bin .add (.slc (.var 7) none (some (.var 9))) (.tup [(.var 8)])) (.slc (.var 7) (some (.bin .add (.var 9) (.lit (.int 1)))) none)), (.bin .add (.slc (.var 7) none (some (.lit (.int 4)))) (.tup [(.var 5)])), (.blt .list [(.var 7)]), (.slc (.var 7) (some (.lit (.int 1))) none), (.bin .add (.var 7) (.tup [(.lit (.str "down"))])), (.slc (.var 7) none (some (.lit (.int 4)))), (.lit .none), (.lit (.str "down")), (.tup [])])), (.par [11, 12] [(.call 17 [(.var 0), (.var 10)]), (.call 16 [(.var 0), (.bin .add (.blt .len [(.var 3)]) (.lit (.int 1)))])]), (.asg (.name 6) (.bin .add (.bin .add (.var 6) (.bin .mul (.lst [(.tup [(.var 2), (.bin .add (.bin .add (.slc (.var 3) none (some (.var 12))) (.tup [(.var 11)])) (.slc (.var 3) (some (.var 12)) none)), (.var 4)])]) (.lit (.int 12)))) (.lst [(.tup [(.var 2), (.bin .mul (.tup [(.var 7)]) (.lit (.int 31))), (.var 4)]), (.tup [(.var 2), (.bin .mul (.tup [(.var 7)]) (.lit (.int 40))), (.var 4)])]))), (.ret (.call 17 [(.var 0), (.var 6)]))], [true, true]⟩
theorem nd19 : N19.Nodup := by decide +kernel
theorem fs19 : FnScope N19 P19 sc19 := ⟨rfl, rfl, rfl, nd19, rfl, by decide +kernel, by decide +kernel⟩
abbrev N20 : List Str := ["_law_feed_here", "_law_rules", "_law_turn", "_law_four", "_law_corner", "_law_hand"]
abbrev P20 : List Str := ["_law_feed_here"]
abbrev sc20 : Scope := defScope (top 37)
def d20 : FnI := ⟨1, 6, [(.asg (.name 1) (.lst [])), (.forr (.name 2) (.rng [(.call 17 [(.var 0), (.lst [(.call 16 [(.var 0), (.lit (.int 6))]), (.call 16 [(.var 0), (.lit (.int 31))]), (.lit (.int 30))])])]) [(.asg (.name 3) (.blt .tuple [(.lc (.name 4) [4] (.rng [(.lit (.int 4))]) [] (.call 17 [(.var 0), (.lst [(.lit (.str "k")), (.lit (.str "k2")), (.lit (.str "a")), (.lit (.str "long1234")), (.lit .none), (.lit .none)])]))])), (.app 1 (.bin .add (.var 3) (.tup [(.call 17 [(.var 0), (.lst [(.lit (.str "across")), (.lit (.str "down"))])])])))]), (.asg (.name 5) (.tup [(.call 17 [(.var 0), (.lst [(.lit (.str "left")), (.lit (.str "right"))])]), (.call 17 [(.var 0), (.lst [(.lit (.str "upper")), (.lit (.str "lower"))])])])), (.ret (.tup [(.var 5), (.blt .tuple [(.var 1)]), (.call 17 [(.var 0), (.lst [(.lit (.str "across")), (.lit (.str "down"))])])]))], [true]⟩
theorem nd20 : N20.Nodup := by decide +kernel
theorem fs20 : FnScope N20 P20 sc20 := ⟨rfl, rfl, rfl, nd20, rfl, by decide +kernel, by decide +kernel⟩
abbrev N21 : List Str := ["_law_book", "_law_way", "_law_hand", "_law_rules", "_law_word", "_law_other", "_law_rule", "_law_sides"]
abbrev P21 : List Str := ["_law_book", "_law_way"]
abbrev sc21 : Scope := defScope (top 38)
def d21 : FnI := ⟨2, 8, [(.asg (.tup [(.name 2), (.name 3), (.name 4)]) (.var 0)), (.asg (.name 5) (.dic false [(.lit (.str "left")), (.lit (.str "right")), (.lit (.str "right")), (.lit (.str "left")), (.lit (.str "upper")), (.lit (.str "lower")), (.lit (.str "lower")), (.lit (.str "upper")), (.lit (.str "across")), (.lit (.str "down")), (.lit (.str "down")), (.lit (.str "across"))])), (.ifs (.cmp .eq (.var 1) (.lit (.int 0))) [(.ret (.tup [(.tup [(.ix (.var 5) (.ix (.var 2) (.lit (.int 0)))), (.ix (.var 2) (.lit (.int 1)))]), (.blt .tuple [(.lc (.name 6) [6] (.val (.var 3)) [] (.tup [(.ix (.var 6) (.lit (.int 1))), (.ix (.var 6) (.lit (.int 0))), (.ix (.var 6) (.lit (.int 3))), (.ix (.var 6) (.lit (.int 2))), (.ix (.var 6) (.lit (.int 4)))]))]), (.var 4)]))] []), (.ifs (.cmp .eq (.var 1) (.lit (.int 1))) [(.ret (.tup [(.tup [(.ix (.var 2) (.lit (.int 0))), (.ix (.var 5) (.ix (.var 2) (.lit (.int 1))))]), (.blt .tuple [(.lc (.name 6) [6] (.val (.var 3)) [] (.tup [(.ix (.var 6) (.lit (.int 2))), (.ix (.var 6) (.lit (.int 3))), (.ix (.var 6) (.lit (.int 0))), (.ix (.var 6) (.lit (.int 1))), (.ix (.var 6) (.lit (.int 4)))]))]), (.var 4)]))] []), (.asg (.name 7) (.tup [(.ife (.cmp .eq (.ix (.var 2) (.lit (.int 1))) (.lit (.str "upper"))) (.lit (.str "left")) (.lit (.str "right"))), (.ife (.cmp .eq (.ix (.var 2) (.lit (.int 0))) (.lit (.str "left"))) (.lit (.str "upper")) (.lit (.str "lower")))])), (.ret (.tup [(.var 7), (.blt .tuple [(.lc (.name 6) [6] (.val (.var 3)) [] (.tup [(.ix (.var 6) (.lit (.int 0))), (.ix (.var 6) (.lit (.int 2))), (.ix (.var 6) (.lit (.int 1))), (.ix (.var 6) (.lit (.int 3))), (.ix (.var 5) (.ix (.var 6) (.lit (.int 4))))]))]), (.ix (.var 5) (.var 4))]))], [true, true]⟩
theorem nd21 : N21.Nodup := by decide +kernel
theorem fs21 : FnScope N21 P21 sc21 := ⟨rfl, rfl, rfl, nd21, rfl, by decide +kernel, by decide +kernel⟩
abbrev N22 : List Str := ["_law_book", "_law_way", "_law_named"]
abbrev P22 : List Str := ["_law_book", "_law_way", "_law_named"]
abbrev sc22 : Scope := defScope (top 39)
def d22 : FnI := ⟨3, 3, [(.ifs (.cmp .eq (.var 1) (.lit (.int 0))) [(.ret (.ife (.var 2) (.callk 12 [(.var 0)] [0]) (.call 12 [(.var 0)])))] []), (.ifs (.cmp .eq (.var 1) (.lit (.int 1))) [(.ret (.ife (.var 2) (.callk 13 [(.var 0)] [0]) (.call 13 [(.var 0)])))] []), (.ret (.ife (.var 2) (.callk 14 [(.var 0)] [0]) (.call 14 [(.var 0)])))], [true, true, true]⟩
theorem nd22 : N22.Nodup := by decide +kernel
theorem fs22 : FnScope N22 P22 sc22 := ⟨rfl, rfl, rfl, nd22, rfl, by decide +kernel, by decide +kernel⟩
abbrev N23 : List Str := ["_law_thing", "_law_way", "_law_named", "_law_caught", "e"]
abbrev P23 : List Str := ["_law_thing", "_law_way", "_law_named"]
abbrev sc23 : Scope := defScope (top 40)
def d23 : FnI := ⟨3, 5, [(.asg (.name 3) (.lit .none)), (.tryK [(.expr (.call 22 [(.var 0), (.var 1), (.var 2)]))] 0 4 3 [(.asg (.name 3) (.var 4))] [(.ret (.isx (.var 3) 1))])], [true, true, true]⟩
theorem nd23 : N23.Nodup := by decide +kernel
theorem fs23 : FnScope N23 P23 sc23 := ⟨rfl, rfl, rfl, nd23, rfl, by decide +kernel, by decide +kernel⟩
abbrev N24 : List Str := ["_law_script", "_law_k", "_law_feed_here", "_law_book", "_law_held", "_law_turned_here", "_law_way", "_law_due"]
abbrev P24 : List Str := ["_law_script"]
abbrev sc24 : Scope := defScope (top 41)
def d24 : FnI := ⟨1, 8, [(.forr (.name 1) (.rng [(.lit (.int 3))]) [(.asg (.name 2) (.call 15 [(.var 0), (.var 1)])), (.asg (.name 3) (.call 20 [(.var 2)])), (.par [4, 5] [(.blt .repr [(.var 3)]), (.lst [])]), (.forr (.name 6) (.rng [(.lit (.int 3))]) [(.asg (.name 7) (.call 21 [(.var 3), (.var 6)])), (.ifs (.cmp .ne (.blt .repr [(.lst [(.call 22 [(.var 3), (.var 6), (.lit (.bool false))]), (.call 22 [(.var 3), (.var 6), (.lit (.bool true))])])]) (.blt .repr [(.lst [(.var 7), (.var 7)])])) [(.ret (.lit (.bool false)))] []), (.app 5 (.call 22 [(.var 3), (.var 6), (.lit (.bool false))])), (.ifs (.cmp .ne (.blt .repr [(.call 22 [(.ix (.var 5) (.neg (.lit (.int 1)))), (.var 6), (.lit (.bool false))])]) (.var 4)) [(.ret (.lit (.bool false)))] [])]), (.ifs (.or (.cmp .ne (.blt .repr [(.call 13 [(.ix (.var 5) (.lit (.int 0)))])]) (.blt .repr [(.call 12 [(.ix (.var 5) (.lit (.int 1)))])])) (.cmp .ne (.blt .repr [(.call 14 [(.ix (.var 5) (.lit (.int 0)))])]) (.blt .repr [(.call 13 [(.ix (.var 5) (.lit (.int 2)))])]))) [(.ret (.lit (.bool false)))] []), (.forr (.name 6) (.rng [(.lit (.int 3))]) [(.ifs (.not (.call 23 [(.call 19 [(.var 2), (.var 3)]), (.var 6), (.cmp .eq (.call 16 [(.var 2), (.lit (.int 2))]) (.lit (.int 0)))])) [(.ret (.lit (.bool false)))] [])]), (.ifs (.cmp .ne (.blt .repr [(.var 3)]) (.var 4)) [(.ret (.lit (.bool false)))] [])]), (.ret (.lit (.bool true)))], [true]⟩
theorem nd24 : N24.Nodup := by decide +kernel
theorem fs24 : FnScope N24 P24 sc24 := ⟨rfl, rfl, rfl, nd24, rfl, by decide +kernel, by decide +kernel⟩
def fs : List FnI := [d0, d1, d2, d3, d4, d5, d6, d7, d8, d9, d10, d11, d12, d13, d14, d15, d16, d17, d18, d19, d20, d21, d22, d23, d24]
def pg : Pg := ⟨fun i => (fs.map FnI.kp).getD i [], subOf tab 2⟩
structure Mf (K : PySem.W.Frag) (mg : Str → Option Value) : Prop where
  f_all : mg "all" = none
  f_int : mg "int" = none
  f_isinstance : mg "isinstance" = none
  f_len : mg "len" = none
  f_list : mg "list" = none
  f_max : mg "max" = none
  f_range : mg "range" = none
  f_repr : mg "repr" = none
  f_str : mg "str" = none
  f_sum : mg "sum" = none
  f_tuple : mg "tuple" = none
  g_BadBook : mg "BadBook" = some (.ref (He.ga K "BadBook"))
  g_SignError : mg "SignError" = some (.ref (He.ga K "SignError"))
  i_MOST_RULES : ∃ u, mg "MOST_RULES" = some u ∧ RelV (.int 30) u
  i_MOST_SIGNS : ∃ u, mg "MOST_SIGNS" = some u ∧ RelV (.int 8) u
  s_DIGITS : ∃ u, mg "DIGITS" = some u ∧ RelV (.str "0123456789") u
  s_LETTERS : ∃ u, mg "LETTERS" = some u ∧ RelV (.str "abcdefghijklmnopqrstuvwxyz") u
  e_BadBook : (He.Fa.exc "BadBook").ok K = true
  t_HEIGHTS : ∃ (u : Value) (v : V), mg "HEIGHTS" = some u ∧ RelV v u ∧ ∀ F, Rp K F v (.tuple [(.str "upper"), (.str "lower")])
  t_SIDES : ∃ (u : Value) (v : V), mg "SIDES" = some u ∧ RelV v u ∧ ∀ F, Rp K F v (.tuple [(.str "left"), (.str "right")])
  t_WORDS : ∃ (u : Value) (v : V), mg "WORDS" = some u ∧ RelV v u ∧ ∀ F, Rp K F v (.tuple [(.str "across"), (.str "down")])
  tg_HEIGHTS : ∃ a : Addr, mg "HEIGHTS" = some (.ref a) ∧ ∀ (E : EP) (F H : Hp), SvAt K E F H (.ref a) (.glt [(.str "upper"), (.str "lower")])
  tg_SIDES : ∃ a : Addr, mg "SIDES" = some (.ref a) ∧ ∀ (E : EP) (F H : Hp), SvAt K E F H (.ref a) (.glt [(.str "left"), (.str "right")])
  tg_WORDS : ∃ a : Addr, mg "WORDS" = some (.ref a) ∧ ∀ (E : EP) (F H : Hp), SvAt K E F H (.ref a) (.glt [(.str "across"), (.str "down")])
  xx : Exx K (caOf K cn) pg.sub
  sm : SysM K
section
variable {P : Program} {w : World} {K : PySem.W.Frag} {mg : Str → Option Value} {base : Heap}
structure Ds (K : PySem.W.Frag) (fd : Nat → FuncData) : Prop where
  d0 : FunD K "is_row" "is_row" (defArgs (top 4)) (defBody (top 4)) (defScope (top 4)) [] [] (He.ga K "is_row") (fd 0)
  d1 : FunD K "is_name" "is_name" (defArgs (top 5)) (defBody (top 5)) (defScope (top 5)) [] [] (He.ga K "is_name") (fd 1)
  d2 : FunD K "is_word_of" "is_word_of" (defArgs (top 13)) (defBody (top 13)) (defScope (top 13)) [] [] (He.ga K "is_word_of") (fd 2)
  d3 : FunD K "is_hand" "is_hand" (defArgs (top 14)) (defBody (top 14)) (defScope (top 14)) [] [] (He.ga K "is_hand") (fd 3)
  d4 : FunD K "is_want" "is_want" (defArgs (top 17)) (defBody (top 17)) (defScope (top 17)) [] [] (He.ga K "is_want") (fd 4)
  d5 : FunD K "is_rule" "is_rule" (defArgs (top 18)) (defBody (top 18)) (defScope (top 18)) [] [] (He.ga K "is_rule") (fd 5)
  d6 : FunD K "is_book" "is_book" (defArgs (top 19)) (defBody (top 19)) (defScope (top 19)) [] [] (He.ga K "is_book") (fd 6)
  d7 : FunD K "need_book" "need_book" (defArgs (top 21)) (defBody (top 21)) (defScope (top 21)) [] [] (He.ga K "need_book") (fd 7)
  d8 : FunD K "other_of" "other_of" (defArgs (top 23)) (defBody (top 23)) (defScope (top 23)) [] [] (He.ga K "other_of") (fd 8)
  d9 : FunD K "mirrored_of" "mirrored_of" (defArgs (top 24)) (defBody (top 24)) (defScope (top 24)) [] [] (He.ga K "mirrored_of") (fd 9)
  d10 : FunD K "turned_over_of" "turned_over_of" (defArgs (top 25)) (defBody (top 25)) (defScope (top 25)) [] [] (He.ga K "turned_over_of") (fd 10)
  d11 : FunD K "side_of" "side_of" (defArgs (top 26)) (defBody (top 26)) (defScope (top 26)) [] [] (He.ga K "side_of") (fd 11)
  d12 : FunD K "mirrored_book" "mirrored_book" (defArgs (top 28)) (defBody (top 28)) (defScope (top 28)) [] [] (He.ga K "mirrored_book") (fd 12)
  d13 : FunD K "turned_over_book" "turned_over_book" (defArgs (top 29)) (defBody (top 29)) (defScope (top 29)) [] [] (He.ga K "turned_over_book") (fd 13)
  d14 : FunD K "side_book" "side_book" (defArgs (top 30)) (defBody (top 30)) (defScope (top 30)) [] [] (He.ga K "side_book") (fd 14)
  d15 : FunD K "_law_feed" "_law_feed" (defArgs (top 32)) (defBody (top 32)) (defScope (top 32)) [] [] (He.ga K "_law_feed") (fd 15)
  d16 : FunD K "_law_draw" "_law_draw" (defArgs (top 33)) (defBody (top 33)) (defScope (top 33)) [] [] (He.ga K "_law_draw") (fd 16)
  d17 : FunD K "_law_one" "_law_one" (defArgs (top 34)) (defBody (top 34)) (defScope (top 34)) [] [] (He.ga K "_law_one") (fd 17)
  d18 : FunD K "_law_mixed" "_law_mixed" (defArgs (top 35)) (defBody (top 35)) (defScope (top 35)) [] [] (He.ga K "_law_mixed") (fd 18)
  d19 : FunD K "_law_no_book" "_law_no_book" (defArgs (top 36)) (defBody (top 36)) (defScope (top 36)) [] [] (He.ga K "_law_no_book") (fd 19)
  d20 : FunD K "_law_drawn_book" "_law_drawn_book" (defArgs (top 37)) (defBody (top 37)) (defScope (top 37)) [] [] (He.ga K "_law_drawn_book") (fd 20)
  d21 : FunD K "_law_turned" "_law_turned" (defArgs (top 38)) (defBody (top 38)) (defScope (top 38)) [] [] (He.ga K "_law_turned") (fd 21)
  d22 : FunD K "_law_told" "_law_told" (defArgs (top 39)) (defBody (top 39)) (defScope (top 39)) [] [] (He.ga K "_law_told") (fd 22)
  d23 : FunD K "_law_is_refused" "_law_is_refused" (defArgs (top 40)) (defBody (top 40)) (defScope (top 40)) [] [] (He.ga K "_law_is_refused") (fd 23)
  d24 : FunD K "law" "law" (defArgs (top 41)) (defBody (top 41)) (defScope (top 41)) [] [] (He.ga K "law") (fd 24)
structure Gs (mg : Str → Option Value) (K : PySem.W.Frag) : Prop where
  g0 : mg "is_row" = some (.ref (He.ga K "is_row"))
  g1 : mg "is_name" = some (.ref (He.ga K "is_name"))
  g2 : mg "is_word_of" = some (.ref (He.ga K "is_word_of"))
  g3 : mg "is_hand" = some (.ref (He.ga K "is_hand"))
  g4 : mg "is_want" = some (.ref (He.ga K "is_want"))
  g5 : mg "is_rule" = some (.ref (He.ga K "is_rule"))
  g6 : mg "is_book" = some (.ref (He.ga K "is_book"))
  g7 : mg "need_book" = some (.ref (He.ga K "need_book"))
  g8 : mg "other_of" = some (.ref (He.ga K "other_of"))
  g9 : mg "mirrored_of" = some (.ref (He.ga K "mirrored_of"))
  g10 : mg "turned_over_of" = some (.ref (He.ga K "turned_over_of"))
  g11 : mg "side_of" = some (.ref (He.ga K "side_of"))
  g12 : mg "mirrored_book" = some (.ref (He.ga K "mirrored_book"))
  g13 : mg "turned_over_book" = some (.ref (He.ga K "turned_over_book"))
  g14 : mg "side_book" = some (.ref (He.ga K "side_book"))
  g15 : mg "_law_feed" = some (.ref (He.ga K "_law_feed"))
  g16 : mg "_law_draw" = some (.ref (He.ga K "_law_draw"))
  g17 : mg "_law_one" = some (.ref (He.ga K "_law_one"))
  g18 : mg "_law_mixed" = some (.ref (He.ga K "_law_mixed"))
  g19 : mg "_law_no_book" = some (.ref (He.ga K "_law_no_book"))
  g20 : mg "_law_drawn_book" = some (.ref (He.ga K "_law_drawn_book"))
  g21 : mg "_law_turned" = some (.ref (He.ga K "_law_turned"))
  g22 : mg "_law_told" = some (.ref (He.ga K "_law_told"))
  g23 : mg "_law_is_refused" = some (.ref (He.ga K "_law_is_refused"))
  g24 : mg "law" = some (.ref (He.ga K "law"))
structure Cs (P : Program) (w : World) (K : PySem.W.Frag) (mg : Str → Option Value) (base : Heap) (fd : Nat → FuncData) (n : Nat) : Prop where
  c0 : Cal P w K mg base n "is_row" (He.ga K "is_row") (fd 0) P0 (spI K (caOf K cn) (fun _ _ _ => False) (orc pg fs n 0))
  c1 : Cal P w K mg base n "is_name" (He.ga K "is_name") (fd 1) P1 (spI K (caOf K cn) (fun _ _ _ => False) (orc pg fs n 1))
  c2 : Cal P w K mg base n "is_word_of" (He.ga K "is_word_of") (fd 2) P2 (spI K (caOf K cn) (fun _ _ _ => False) (orc pg fs n 2))
  c3 : Cal P w K mg base n "is_hand" (He.ga K "is_hand") (fd 3) P3 (spI K (caOf K cn) (fun _ _ _ => False) (orc pg fs n 3))
  c4 : Cal P w K mg base n "is_want" (He.ga K "is_want") (fd 4) P4 (spI K (caOf K cn) (fun _ _ _ => False) (orc pg fs n 4))
  c5 : Cal P w K mg base n "is_rule" (He.ga K "is_rule") (fd 5) P5 (spI K (caOf K cn) (fun _ _ _ => False) (orc pg fs n 5))
  c6 : Cal P w K mg base n "is_book" (He.ga K "is_book") (fd 6) P6 (spI K (caOf K cn) (fun _ _ _ => False) (orc pg fs n 6))
  c7 : Cal P w K mg base n "need_book" (He.ga K "need_book") (fd 7) P7 (spI K (caOf K cn) (fun _ _ _ => False) (orc pg fs n 7))
  c8 : Cal P w K mg base n "other_of" (He.ga K "other_of") (fd 8) P8 (spI K (caOf K cn) (fun _ _ _ => False) (orc pg fs n 8))
  c9 : Cal P w K mg base n "mirrored_of" (He.ga K "mirrored_of") (fd 9) P9 (spI K (caOf K cn) (fun _ _ _ => False) (orc pg fs n 9))
  c10 : Cal P w K mg base n "turned_over_of" (He.ga K "turned_over_of") (fd 10) P10 (spI K (caOf K cn) (fun _ _ _ => False) (orc pg fs n 10))
  c11 : Cal P w K mg base n "side_of" (He.ga K "side_of") (fd 11) P11 (spI K (caOf K cn) (fun _ _ _ => False) (orc pg fs n 11))
  c12 : Cal P w K mg base n "mirrored_book" (He.ga K "mirrored_book") (fd 12) P12 (spI K (caOf K cn) (fun _ _ _ => False) (orc pg fs n 12))
  c13 : Cal P w K mg base n "turned_over_book" (He.ga K "turned_over_book") (fd 13) P13 (spI K (caOf K cn) (fun _ _ _ => False) (orc pg fs n 13))
  c14 : Cal P w K mg base n "side_book" (He.ga K "side_book") (fd 14) P14 (spI K (caOf K cn) (fun _ _ _ => False) (orc pg fs n 14))
  c15 : Cal P w K mg base n "_law_feed" (He.ga K "_law_feed") (fd 15) P15 (spI K (caOf K cn) (fun _ _ _ => False) (orc pg fs n 15))
  c16 : Cal P w K mg base n "_law_draw" (He.ga K "_law_draw") (fd 16) P16 (spI K (caOf K cn) (fun _ _ _ => False) (orc pg fs n 16))
  c17 : Cal P w K mg base n "_law_one" (He.ga K "_law_one") (fd 17) P17 (spI K (caOf K cn) (fun _ _ _ => False) (orc pg fs n 17))
  c18 : Cal P w K mg base n "_law_mixed" (He.ga K "_law_mixed") (fd 18) P18 (spI K (caOf K cn) (fun _ _ _ => False) (orc pg fs n 18))
  c19 : Cal P w K mg base n "_law_no_book" (He.ga K "_law_no_book") (fd 19) P19 (spI K (caOf K cn) (fun _ _ _ => False) (orc pg fs n 19))
  c20 : Cal P w K mg base n "_law_drawn_book" (He.ga K "_law_drawn_book") (fd 20) P20 (spI K (caOf K cn) (fun _ _ _ => False) (orc pg fs n 20))
  c21 : Cal P w K mg base n "_law_turned" (He.ga K "_law_turned") (fd 21) P21 (spI K (caOf K cn) (fun _ _ _ => False) (orc pg fs n 21))
  c22 : Cal P w K mg base n "_law_told" (He.ga K "_law_told") (fd 22) P22 (spI K (caOf K cn) (fun _ _ _ => False) (orc pg fs n 22))
  c23 : Cal P w K mg base n "_law_is_refused" (He.ga K "_law_is_refused") (fd 23) P23 (spI K (caOf K cn) (fun _ _ _ => False) (orc pg fs n 23))
  c24 : Cal P w K mg base n "law" (He.ga K "law") (fd 24) P24 (spI K (caOf K cn) (fun _ _ _ => False) (orc pg fs n 24))
theorem kb0 {fd : Nat → FuncData} (D : Ds K fd) : KB K (fd 12) P12 0 ["book"] [0] := kb_of D.d12 fun _ _ _ _ _ _ us ws h1 h2 => match us, ws, h1, h2 with
  | [], [_], _, _ => rfl
theorem kb1 {fd : Nat → FuncData} (D : Ds K fd) : KB K (fd 13) P13 0 ["book"] [0] := kb_of D.d13 fun _ _ _ _ _ _ us ws h1 h2 => match us, ws, h1, h2 with
  | [], [_], _, _ => rfl
theorem kb2 {fd : Nat → FuncData} (D : Ds K fd) : KB K (fd 14) P14 0 ["book"] [0] := kb_of D.d14 fun _ _ _ _ _ _ us ws h1 h2 => match us, ws, h1, h2 with
  | [], [_], _, _ => rfl
theorem body0 {fd : Nat → FuncData} {n : Nat} {cdv : Value} {A : Around} {outer : List PySem.Env} {s : Shared} {H : Hp} {E : XK} (C : Cs P w K mg base fd n) (D : Ds K fd) (M : Mf K mg)
    (T : Tx (gOf K (caOf K cn) E) (cxOf (L2.CX P w) P w K mg base N0 "is_row" (defScope (top 4)) (He.ga K "is_row") cdv A outer s H E) n) :
    ∀ ρ, PSs (cxOf (L2.CX P w) P w K mg base N0 "is_row" (defScope (top 4)) (He.ga K "is_row") cdv A outer s H E) (defBody (top 4)) (rdS (gOf K (caOf K cn) E) (mB []) ρ (evSs pg (orc pg fs n) d0.np d0.body ρ)) :=
  (ss_cons (s_ret (e_and T.e.K (e_isi T.e.K (e_var (pv 0)) rfl M.f_isinstance (pe_bltn rfl M.f_tuple (by decide +kernel) rfl) rfl rfl rfl) (e_one (e_chain o_le o_le rfl (e_var (pv 1)) (e_bltB c_len rfl M.f_len (by decide +kernel) (a_cons (e_var (pv 0)) a_nil rfl) (by decide) (by decide) rfl rfl) (e_var (pv 2))))))
  (ss_nil _))
theorem body1 {fd : Nat → FuncData} {n : Nat} {cdv : Value} {A : Around} {outer : List PySem.Env} {s : Shared} {H : Hp} {E : XK} (C : Cs P w K mg base fd n) (D : Ds K fd) (M : Mf K mg)
    (T : Tx (gOf K (caOf K cn) E) (cxOf (L2.CX P w) P w K mg base N1 "is_name" (defScope (top 5)) (He.ga K "is_name") cdv A outer s H E) n) :
    ∀ ρ, PSs (cxOf (L2.CX P w) P w K mg base N1 "is_name" (defScope (top 5)) (He.ga K "is_name") cdv A outer s H E) (defBody (top 5)) (rdS (gOf K (caOf K cn) E) (mB []) ρ (evSs pg (orc pg fs n) d1.np d1.body ρ)) :=
  (ss_cons (s_if (t_w (w_or (t_not (t_val (e_isi T.e.K (e_var (pv 0)) rfl M.f_isinstance (pe_bltn rfl M.f_str (by decide +kernel) rfl) rfl rfl rfl) T.e.K (fun _ => rfl))) (w_one (t_not (t_chain o_le o_le rfl (e_lit pe_int fun _ => .int _) (e_bltB c_len rfl M.f_len (by decide +kernel) (a_cons (e_var (pv 0)) a_nil rfl) (by decide) (by decide) rfl rfl) (e_glb (e_gn rfl M.i_MOST_SIGNS rfl) fun _ => .int _)))))) (ss_cons (s_ret (e_lit pe_bl fun _ => .bl _))
  (ss_nil _)) (ss_nil _))
  (ss_cons (s_ret (e_and T.e.K (e_cmp (o_in T.e.u65) rfl (e_ix (ixr_any T.e.u1) (fun _ _ => rfl) (e_var (pv 0)) (e_lit pe_int fun _ => .int _)) (e_glb (e_gn rfl M.s_LETTERS rfl) fun _ => .str _)) (e_one (e_bltB (c_all T.e.calm) rfl M.f_all (by decide +kernel) (a_cons (e_lc (own := [("sign", 1)]) T.e.K T.e.calm nd1 (show BlkOk N1 sc1 _ _ from ⟨rfl, by decide +kernel, by decide +kernel, by decide +kernel, by decide +kernel⟩) (by decide) (i_val T.e.K (e_var (pv 0))) (fun s_ H_ cc_ cl_ fp_ => (pg_name nd1 rfl (Or.inl rfl) (Or.inr rfl))) (fun s_ H_ cc_ cl_ fp_ => pts_u0) (fun s_ H_ cc_ cl_ fp_ => pe_u (e_or T.e.blk.K (e_cmp (o_in T.e.blk.u65) rfl (e_var (pv 1)) (e_glb (e_gn rfl M.s_LETTERS rfl) fun _ => .str _)) (e_one (e_cmp (o_in T.e.blk.u65) rfl (e_var (pv 1)) (e_glb (e_gn rfl M.s_DIGITS rfl) fun _ => .str _))))) (fun _ => rfl)) a_nil rfl) (by decide) (by decide) rfl rfl))))
  (ss_nil _)))
theorem body2 {fd : Nat → FuncData} {n : Nat} {cdv : Value} {A : Around} {outer : List PySem.Env} {s : Shared} {H : Hp} {E : XK} (C : Cs P w K mg base fd n) (D : Ds K fd) (M : Mf K mg)
    (T : Tx (gOf K (caOf K cn) E) (cxOf (L2.CX P w) P w K mg base N2 "is_word_of" (defScope (top 13)) (He.ga K "is_word_of") cdv A outer s H E) n) :
    ∀ ρ, PSs (cxOf (L2.CX P w) P w K mg base N2 "is_word_of" (defScope (top 13)) (He.ga K "is_word_of") cdv A outer s H E) (defBody (top 13)) (rdS (gOf K (caOf K cn) E) (mB []) ρ (evSs pg (orc pg fs n) d2.np d2.body ρ)) :=
  (ss_cons (s_ret (e_and T.e.K (e_isi T.e.K (e_var (pv 0)) rfl M.f_isinstance (pe_bltn rfl M.f_str (by decide +kernel) rfl) rfl rfl rfl) (e_one (e_cmp (o_in T.e.u65) rfl (e_var (pv 0)) (e_var (pv 1))))))
  (ss_nil _))
theorem body3 {fd : Nat → FuncData} {n : Nat} {cdv : Value} {A : Around} {outer : List PySem.Env} {s : Shared} {H : Hp} {E : XK} (C : Cs P w K mg base fd n) (D : Ds K fd) (M : Mf K mg)
    (T : Tx (gOf K (caOf K cn) E) (cxOf (L2.CX P w) P w K mg base N3 "is_hand" (defScope (top 14)) (He.ga K "is_hand") cdv A outer s H E) n) :
    ∀ ρ, PSs (cxOf (L2.CX P w) P w K mg base N3 "is_hand" (defScope (top 14)) (He.ga K "is_hand") cdv A outer s H E) (defBody (top 14)) (rdS (gOf K (caOf K cn) E) (mB []) ρ (evSs pg (orc pg fs n) d3.np d3.body ρ)) :=
  (ss_cons (s_ret (e_and T.e.K (e_callG T.e.tk C.c0.g T.e.rm T.e.gd rfl C.c0.m C.c0.k C.c0.b (a_cons (e_var (pv 0)) (a_cons (e_lit pe_int fun _ => .int _) (a_cons (e_lit pe_int fun _ => .int _) a_nil rfl) rfl) rfl) (by decide) rfl rfl) (e_and T.e.K (e_callG T.e.tk C.c2.g T.e.rm T.e.gd rfl C.c2.m C.c2.k C.c2.b (a_cons (e_ix (ixr_any T.e.u1) (fun _ _ => rfl) (e_var (pv 0)) (e_lit pe_int fun _ => .int _)) (a_cons (e_glbT rfl M.t_SIDES rfl) a_nil rfl) rfl) (by decide) rfl rfl) (e_one (e_callG T.e.tk C.c2.g T.e.rm T.e.gd rfl C.c2.m C.c2.k C.c2.b (a_cons (e_ix (ixr_any T.e.u1) (fun _ _ => rfl) (e_var (pv 0)) (e_lit pe_int fun _ => .int _)) (a_cons (e_glbT rfl M.t_HEIGHTS rfl) a_nil rfl) rfl) (by decide) rfl rfl)))))
  (ss_nil _))
theorem body4 {fd : Nat → FuncData} {n : Nat} {cdv : Value} {A : Around} {outer : List PySem.Env} {s : Shared} {H : Hp} {E : XK} (C : Cs P w K mg base fd n) (D : Ds K fd) (M : Mf K mg)
    (T : Tx (gOf K (caOf K cn) E) (cxOf (L2.CX P w) P w K mg base N4 "is_want" (defScope (top 17)) (He.ga K "is_want") cdv A outer s H E) n) :
    ∀ ρ, PSs (cxOf (L2.CX P w) P w K mg base N4 "is_want" (defScope (top 17)) (He.ga K "is_want") cdv A outer s H E) (defBody (top 17)) (rdS (gOf K (caOf K cn) E) (mB []) ρ (evSs pg (orc pg fs n) d4.np d4.body ρ)) :=
  (ss_cons (s_ret (e_or T.e.K (e_isN (e_var (pv 0))) (e_one (e_callG T.e.tk C.c1.g T.e.rm T.e.gd rfl C.c1.m C.c1.k C.c1.b (a_cons (e_var (pv 0)) a_nil rfl) (by decide) rfl rfl))))
  (ss_nil _))
theorem body5 {fd : Nat → FuncData} {n : Nat} {cdv : Value} {A : Around} {outer : List PySem.Env} {s : Shared} {H : Hp} {E : XK} (C : Cs P w K mg base fd n) (D : Ds K fd) (M : Mf K mg)
    (T : Tx (gOf K (caOf K cn) E) (cxOf (L2.CX P w) P w K mg base N5 "is_rule" (defScope (top 18)) (He.ga K "is_rule") cdv A outer s H E) n) :
    ∀ ρ, PSs (cxOf (L2.CX P w) P w K mg base N5 "is_rule" (defScope (top 18)) (He.ga K "is_rule") cdv A outer s H E) (defBody (top 18)) (rdS (gOf K (caOf K cn) E) (mB []) ρ (evSs pg (orc pg fs n) d5.np d5.body ρ)) :=
  (ss_cons (s_if (t_w (w_or (t_not (t_val (e_callG T.e.tk C.c0.g T.e.rm T.e.gd rfl C.c0.m C.c0.k C.c0.b (a_cons (e_var (pv 0)) (a_cons (e_lit pe_int fun _ => .int _) (a_cons (e_lit pe_int fun _ => .int _) a_nil rfl) rfl) rfl) (by decide) rfl rfl) T.e.K (fun _ => rfl))) (w_one (t_not (t_val (e_callG T.e.tk C.c2.g T.e.rm T.e.gd rfl C.c2.m C.c2.k C.c2.b (a_cons (e_ix (ixr_any T.e.u1) (fun _ _ => rfl) (e_var (pv 0)) (e_lit pe_int fun _ => .int _)) (a_cons (e_glbT rfl M.t_WORDS rfl) a_nil rfl) rfl) (by decide) rfl rfl) T.e.K (fun _ => rfl)))))) (ss_cons (s_ret (e_lit pe_bl fun _ => .bl _))
  (ss_nil _)) (ss_nil _))
  (ss_cons (s_ret (e_bltB (c_all T.e.calm) rfl M.f_all (by decide +kernel) (a_cons (e_lc (own := [("want", 1)]) T.e.K T.e.calm nd5 (show BlkOk N5 sc5 _ _ from ⟨rfl, by decide +kernel, by decide +kernel, by decide +kernel, by decide +kernel⟩) (by decide) (i_val T.e.K (e_slc T.e.K (e_var (pv 0)) o_none (o_some (e_lit pe_int fun _ => .int _)))) (fun s_ H_ cc_ cl_ fp_ => (pg_name nd5 rfl (Or.inl rfl) (Or.inr rfl))) (fun s_ H_ cc_ cl_ fp_ => pts_u0) (fun s_ H_ cc_ cl_ fp_ => pe_u (e_callG T.e.blk.tk C.c4.g T.e.blk.rm T.e.blk.gd rfl C.c4.m C.c4.k C.c4.b (a_cons (e_var (pv 1)) a_nil rfl) (by decide) rfl rfl)) (fun _ => rfl)) a_nil rfl) (by decide) (by decide) rfl rfl))
  (ss_nil _)))
theorem body6 {fd : Nat → FuncData} {n : Nat} {cdv : Value} {A : Around} {outer : List PySem.Env} {s : Shared} {H : Hp} {E : XK} (C : Cs P w K mg base fd n) (D : Ds K fd) (M : Mf K mg)
    (T : Tx (gOf K (caOf K cn) E) (cxOf (L2.CX P w) P w K mg base N6 "is_book" (defScope (top 19)) (He.ga K "is_book") cdv A outer s H E) n) :
    ∀ ρ, PSs (cxOf (L2.CX P w) P w K mg base N6 "is_book" (defScope (top 19)) (He.ga K "is_book") cdv A outer s H E) (defBody (top 19)) (rdS (gOf K (caOf K cn) E) (mB []) ρ (evSs pg (orc pg fs n) d6.np d6.body ρ)) :=
  (ss_cons (s_if (t_w (w_or (t_not (t_val (e_callG T.e.tk C.c0.g T.e.rm T.e.gd rfl C.c0.m C.c0.k C.c0.b (a_cons (e_var (pv 0)) (a_cons (e_lit pe_int fun _ => .int _) (a_cons (e_lit pe_int fun _ => .int _) a_nil rfl) rfl) rfl) (by decide) rfl rfl) T.e.K (fun _ => rfl))) (w_or (t_not (t_val (e_callG T.e.tk C.c3.g T.e.rm T.e.gd rfl C.c3.m C.c3.k C.c3.b (a_cons (e_ix (ixr_any T.e.u1) (fun _ _ => rfl) (e_var (pv 0)) (e_lit pe_int fun _ => .int _)) a_nil rfl) (by decide) rfl rfl) T.e.K (fun _ => rfl))) (w_one (t_not (t_val (e_callG T.e.tk C.c2.g T.e.rm T.e.gd rfl C.c2.m C.c2.k C.c2.b (a_cons (e_ix (ixr_any T.e.u1) (fun _ _ => rfl) (e_var (pv 0)) (e_lit pe_int fun _ => .int _)) (a_cons (e_glbT rfl M.t_WORDS rfl) a_nil rfl) rfl) (by decide) rfl rfl) T.e.K (fun _ => rfl))))))) (ss_cons (s_ret (e_lit pe_bl fun _ => .bl _))
  (ss_nil _)) (ss_nil _))
  (ss_cons (s_ret (e_and T.e.K (e_callG T.e.tk C.c0.g T.e.rm T.e.gd rfl C.c0.m C.c0.k C.c0.b (a_cons (e_ix (ixr_any T.e.u1) (fun _ _ => rfl) (e_var (pv 0)) (e_lit pe_int fun _ => .int _)) (a_cons (e_lit pe_int fun _ => .int _) (a_cons (e_glb (e_gn rfl M.i_MOST_RULES rfl) fun _ => .int _) a_nil rfl) rfl) rfl) (by decide) rfl rfl) (e_one (e_bltB (c_all T.e.calm) rfl M.f_all (by decide +kernel) (a_cons (e_lc (own := [("rule", 1)]) T.e.K T.e.calm nd6 (show BlkOk N6 sc6 _ _ from ⟨rfl, by decide +kernel, by decide +kernel, by decide +kernel, by decide +kernel⟩) (by decide) (i_val T.e.K (e_ix (ixr_any T.e.u1) (fun _ _ => rfl) (e_var (pv 0)) (e_lit pe_int fun _ => .int _))) (fun s_ H_ cc_ cl_ fp_ => (pg_name nd6 rfl (Or.inl rfl) (Or.inr rfl))) (fun s_ H_ cc_ cl_ fp_ => pts_u0) (fun s_ H_ cc_ cl_ fp_ => pe_u (e_callG T.e.blk.tk C.c5.g T.e.blk.rm T.e.blk.gd rfl C.c5.m C.c5.k C.c5.b (a_cons (e_var (pv 1)) a_nil rfl) (by decide) rfl rfl)) (fun _ => rfl)) a_nil rfl) (by decide) (by decide) rfl rfl))))
  (ss_nil _)))
theorem body7 {fd : Nat → FuncData} {n : Nat} {cdv : Value} {A : Around} {outer : List PySem.Env} {s : Shared} {H : Hp} {E : XK} (C : Cs P w K mg base fd n) (D : Ds K fd) (M : Mf K mg)
    (T : Tx (gOf K (caOf K cn) E) (cxOf (L2.CX P w) P w K mg base N7 "need_book" (defScope (top 21)) (He.ga K "need_book") cdv A outer s H E) n) :
    ∀ ρ, PSs (cxOf (L2.CX P w) P w K mg base N7 "need_book" (defScope (top 21)) (He.ga K "need_book") cdv A outer s H E) (defBody (top 21)) (rdS (gOf K (caOf K cn) E) (mB []) ρ (evSs pg (orc pg fs n) d7.np d7.body ρ)) :=
  (ss_cons (s_if (t_not (t_val (e_callG T.e.tk C.c6.g T.e.rm T.e.gd rfl C.c6.m C.c6.k C.c6.b (a_cons (e_var (pv 0)) a_nil rfl) (by decide) rfl rfl) T.e.K (fun _ => rfl))) (ss_cons (s_raise (c := 1) T.e.calm T.e.tk (mk_own M.e_BadBook M.g_BadBook rfl rfl (by decide)))
  (ss_nil _)) (ss_nil _))
  (ss_nil _))
theorem body8 {fd : Nat → FuncData} {n : Nat} {cdv : Value} {A : Around} {outer : List PySem.Env} {s : Shared} {H : Hp} {E : XK} (C : Cs P w K mg base fd n) (D : Ds K fd) (M : Mf K mg)
    (T : Tx (gOf K (caOf K cn) E) (cxOf (L2.CX P w) P w K mg base N8 "other_of" (defScope (top 23)) (He.ga K "other_of") cdv A outer s H E) n) :
    ∀ ρ, PSs (cxOf (L2.CX P w) P w K mg base N8 "other_of" (defScope (top 23)) (He.ga K "other_of") cdv A outer s H E) (defBody (top 23)) (rdS (gOf K (caOf K cn) E) (mB []) ρ (evSs pg (orc pg fs n) d8.np d8.body ρ)) :=
  (ss_cons (s_ret (e_ix (ixr_any T.e.u1) (fun _ _ => rfl) (e_var (pv 0)) (e_bin o_sub (e_lit pe_int fun _ => .int _) (e_indexG T.e.K (e_var (pv 0)) (e_var (pv 1)) rfl rfl rfl rfl rfl))))
  (ss_nil _))
theorem body9 {fd : Nat → FuncData} {n : Nat} {cdv : Value} {A : Around} {outer : List PySem.Env} {s : Shared} {H : Hp} {E : XK} (C : Cs P w K mg base fd n) (D : Ds K fd) (M : Mf K mg)
    (T : Tx (gOf K (caOf K cn) E) (cxOf (L2.CX P w) P w K mg base N9 "mirrored_of" (defScope (top 24)) (He.ga K "mirrored_of") cdv A outer s H E) n) :
    ∀ ρ, PSs (cxOf (L2.CX P w) P w K mg base N9 "mirrored_of" (defScope (top 24)) (He.ga K "mirrored_of") cdv A outer s H E) (defBody (top 24)) (rdS (gOf K (caOf K cn) E) (mB [1, 2, 3, 4]) ρ (evSs pg (orc pg fs n) d9.np d9.body ρ)) :=
  (ss_cons (s_asgT T.e.K (e_var (pv 0)) (pg_tup T.e.calm (pgs_cons (pg_name nd9 rfl (Or.inl rfl) (Or.inl rfl)) (pgs_cons (pg_name nd9 rfl (Or.inl rfl) (Or.inl rfl)) (pgs_cons (pg_name nd9 rfl (Or.inl rfl) (Or.inl rfl)) pgs_nil rfl) rfl) rfl) rfl rfl) (mB_all rfl) rfl rfl rfl)
  (ss_cons (s_setLc (own := [("rule", 5)]) rfl rfl rfl rfl rfl rfl  T.e.K T.e.calm nd9 (show BlkOk N9 sc9 _ _ from ⟨rfl, by decide +kernel, by decide +kernel, by decide +kernel, by decide +kernel⟩) (by decide) (i_val T.e.K (e_var (pv 2))) (fun s_ H_ cc_ cl_ fp_ => (pg_name nd9 rfl (Or.inl rfl) (Or.inr rfl))) (fun s_ H_ cc_ cl_ fp_ => pts_u0) (fun s_ H_ cc_ cl_ fp_ => pe_u (e_tup (a_cons (e_ix (ixr_any T.e.blk.u1) (fun _ _ => rfl) (e_var (pv 5)) (e_lit pe_int fun _ => .int _)) (a_cons (e_ix (ixr_any T.e.blk.u1) (fun _ _ => rfl) (e_var (pv 5)) (e_lit pe_int fun _ => .int _)) (a_cons (e_ix (ixr_any T.e.blk.u1) (fun _ _ => rfl) (e_var (pv 5)) (e_lit pe_int fun _ => .int _)) (a_cons (e_ix (ixr_any T.e.blk.u1) (fun _ _ => rfl) (e_var (pv 5)) (e_lit pe_int fun _ => .int _)) (a_cons (e_ix (ixr_any T.e.blk.u1) (fun _ _ => rfl) (e_var (pv 5)) (e_lit pe_int fun _ => .int _)) a_nil rfl) rfl) rfl) rfl) rfl))) (fun _ => rfl))
  (ss_cons (s_ret (e_tup (a_cons (e_tup (a_cons (e_callG T.e.tk C.c8.g T.e.rm T.e.gd rfl C.c8.m C.c8.k C.c8.b (a_cons (e_gt rfl M.tg_SIDES rfl) (a_cons (e_ix (ixr_any T.e.u1) (fun _ _ => rfl) (e_var (pv 1)) (e_lit pe_int fun _ => .int _)) a_nil rfl) rfl) (by decide) rfl rfl) (a_cons (e_ix (ixr_any T.e.u1) (fun _ _ => rfl) (e_var (pv 1)) (e_lit pe_int fun _ => .int _)) a_nil rfl) rfl)) (a_cons (e_bltT c_tuple rfl M.f_tuple (by decide +kernel) (a_cons (e_var (pv 4)) a_nil rfl) (by decide) (by decide) rfl rfl) (a_cons (e_var (pv 3)) a_nil rfl) rfl) rfl)))
  (ss_nil _))))
theorem body10 {fd : Nat → FuncData} {n : Nat} {cdv : Value} {A : Around} {outer : List PySem.Env} {s : Shared} {H : Hp} {E : XK} (C : Cs P w K mg base fd n) (D : Ds K fd) (M : Mf K mg)
    (T : Tx (gOf K (caOf K cn) E) (cxOf (L2.CX P w) P w K mg base N10 "turned_over_of" (defScope (top 25)) (He.ga K "turned_over_of") cdv A outer s H E) n) :
    ∀ ρ, PSs (cxOf (L2.CX P w) P w K mg base N10 "turned_over_of" (defScope (top 25)) (He.ga K "turned_over_of") cdv A outer s H E) (defBody (top 25)) (rdS (gOf K (caOf K cn) E) (mB [1, 2, 3, 4]) ρ (evSs pg (orc pg fs n) d10.np d10.body ρ)) :=
  (ss_cons (s_asgT T.e.K (e_var (pv 0)) (pg_tup T.e.calm (pgs_cons (pg_name nd10 rfl (Or.inl rfl) (Or.inl rfl)) (pgs_cons (pg_name nd10 rfl (Or.inl rfl) (Or.inl rfl)) (pgs_cons (pg_name nd10 rfl (Or.inl rfl) (Or.inl rfl)) pgs_nil rfl) rfl) rfl) rfl rfl) (mB_all rfl) rfl rfl rfl)
  (ss_cons (s_setLc (own := [("rule", 5)]) rfl rfl rfl rfl rfl rfl  T.e.K T.e.calm nd10 (show BlkOk N10 sc10 _ _ from ⟨rfl, by decide +kernel, by decide +kernel, by decide +kernel, by decide +kernel⟩) (by decide) (i_val T.e.K (e_var (pv 2))) (fun s_ H_ cc_ cl_ fp_ => (pg_name nd10 rfl (Or.inl rfl) (Or.inr rfl))) (fun s_ H_ cc_ cl_ fp_ => pts_u0) (fun s_ H_ cc_ cl_ fp_ => pe_u (e_tup (a_cons (e_ix (ixr_any T.e.blk.u1) (fun _ _ => rfl) (e_var (pv 5)) (e_lit pe_int fun _ => .int _)) (a_cons (e_ix (ixr_any T.e.blk.u1) (fun _ _ => rfl) (e_var (pv 5)) (e_lit pe_int fun _ => .int _)) (a_cons (e_ix (ixr_any T.e.blk.u1) (fun _ _ => rfl) (e_var (pv 5)) (e_lit pe_int fun _ => .int _)) (a_cons (e_ix (ixr_any T.e.blk.u1) (fun _ _ => rfl) (e_var (pv 5)) (e_lit pe_int fun _ => .int _)) (a_cons (e_ix (ixr_any T.e.blk.u1) (fun _ _ => rfl) (e_var (pv 5)) (e_lit pe_int fun _ => .int _)) a_nil rfl) rfl) rfl) rfl) rfl))) (fun _ => rfl))
  (ss_cons (s_ret (e_tup (a_cons (e_tup (a_cons (e_ix (ixr_any T.e.u1) (fun _ _ => rfl) (e_var (pv 1)) (e_lit pe_int fun _ => .int _)) (a_cons (e_callG T.e.tk C.c8.g T.e.rm T.e.gd rfl C.c8.m C.c8.k C.c8.b (a_cons (e_gt rfl M.tg_HEIGHTS rfl) (a_cons (e_ix (ixr_any T.e.u1) (fun _ _ => rfl) (e_var (pv 1)) (e_lit pe_int fun _ => .int _)) a_nil rfl) rfl) (by decide) rfl rfl) a_nil rfl) rfl)) (a_cons (e_bltT c_tuple rfl M.f_tuple (by decide +kernel) (a_cons (e_var (pv 4)) a_nil rfl) (by decide) (by decide) rfl rfl) (a_cons (e_var (pv 3)) a_nil rfl) rfl) rfl)))
  (ss_nil _))))
theorem body11 {fd : Nat → FuncData} {n : Nat} {cdv : Value} {A : Around} {outer : List PySem.Env} {s : Shared} {H : Hp} {E : XK} (C : Cs P w K mg base fd n) (D : Ds K fd) (M : Mf K mg)
    (T : Tx (gOf K (caOf K cn) E) (cxOf (L2.CX P w) P w K mg base N11 "side_of" (defScope (top 26)) (He.ga K "side_of") cdv A outer s H E) n) :
    ∀ ρ, PSs (cxOf (L2.CX P w) P w K mg base N11 "side_of" (defScope (top 26)) (He.ga K "side_of") cdv A outer s H E) (defBody (top 26)) (rdS (gOf K (caOf K cn) E) (mB [1, 2, 3, 4, 6]) ρ (evSs pg (orc pg fs n) d11.np d11.body ρ)) :=
  (ss_cons (s_asgT T.e.K (e_var (pv 0)) (pg_tup T.e.calm (pgs_cons (pg_name nd11 rfl (Or.inl rfl) (Or.inl rfl)) (pgs_cons (pg_name nd11 rfl (Or.inl rfl) (Or.inl rfl)) (pgs_cons (pg_name nd11 rfl (Or.inl rfl) (Or.inl rfl)) pgs_nil rfl) rfl) rfl) rfl rfl) (mB_all rfl) rfl rfl rfl)
  (ss_cons (s_setLc (own := [("rule", 5)]) rfl rfl rfl rfl rfl rfl  T.e.K T.e.calm nd11 (show BlkOk N11 sc11 _ _ from ⟨rfl, by decide +kernel, by decide +kernel, by decide +kernel, by decide +kernel⟩) (by decide) (i_val T.e.K (e_var (pv 2))) (fun s_ H_ cc_ cl_ fp_ => (pg_name nd11 rfl (Or.inl rfl) (Or.inr rfl))) (fun s_ H_ cc_ cl_ fp_ => pts_u0) (fun s_ H_ cc_ cl_ fp_ => pe_u (e_tup (a_cons (e_ix (ixr_any T.e.blk.u1) (fun _ _ => rfl) (e_var (pv 5)) (e_lit pe_int fun _ => .int _)) (a_cons (e_ix (ixr_any T.e.blk.u1) (fun _ _ => rfl) (e_var (pv 5)) (e_lit pe_int fun _ => .int _)) (a_cons (e_ix (ixr_any T.e.blk.u1) (fun _ _ => rfl) (e_var (pv 5)) (e_lit pe_int fun _ => .int _)) (a_cons (e_ix (ixr_any T.e.blk.u1) (fun _ _ => rfl) (e_var (pv 5)) (e_lit pe_int fun _ => .int _)) (a_cons (e_callG T.e.blk.tk C.c8.g T.e.blk.rm T.e.blk.gd rfl C.c8.m C.c8.k C.c8.b (a_cons (e_gt rfl M.tg_WORDS rfl) (a_cons (e_ix (ixr_any T.e.blk.u1) (fun _ _ => rfl) (e_var (pv 5)) (e_lit pe_int fun _ => .int _)) a_nil rfl) rfl) (by decide) rfl rfl) a_nil rfl) rfl) rfl) rfl) rfl))) (fun _ => rfl))
  (ss_cons (s_set nd11 rfl (Or.inl rfl) (e_tup (a_cons (e_ix (ixr_any T.e.u1) (fun _ _ => rfl) (e_glbT rfl M.t_SIDES rfl) (e_indexG T.e.K (e_gt rfl M.tg_HEIGHTS rfl) (e_ix (ixr_any T.e.u1) (fun _ _ => rfl) (e_var (pv 1)) (e_lit pe_int fun _ => .int _)) rfl rfl rfl rfl rfl)) (a_cons (e_ix (ixr_any T.e.u1) (fun _ _ => rfl) (e_glbT rfl M.t_HEIGHTS rfl) (e_indexG T.e.K (e_gt rfl M.tg_SIDES rfl) (e_ix (ixr_any T.e.u1) (fun _ _ => rfl) (e_var (pv 1)) (e_lit pe_int fun _ => .int _)) rfl rfl rfl rfl rfl)) a_nil rfl) rfl)) rfl rfl (Or.inl rfl))
  (ss_cons (s_ret (e_tup (a_cons (e_var (pv 6)) (a_cons (e_bltT c_tuple rfl M.f_tuple (by decide +kernel) (a_cons (e_var (pv 4)) a_nil rfl) (by decide) (by decide) rfl rfl) (a_cons (e_callG T.e.tk C.c8.g T.e.rm T.e.gd rfl C.c8.m C.c8.k C.c8.b (a_cons (e_gt rfl M.tg_WORDS rfl) (a_cons (e_var (pv 3)) a_nil rfl) rfl) (by decide) rfl rfl) a_nil rfl) rfl) rfl)))
  (ss_nil _)))))
theorem body12 {fd : Nat → FuncData} {n : Nat} {cdv : Value} {A : Around} {outer : List PySem.Env} {s : Shared} {H : Hp} {E : XK} (C : Cs P w K mg base fd n) (D : Ds K fd) (M : Mf K mg)
    (T : Tx (gOf K (caOf K cn) E) (cxOf (L2.CX P w) P w K mg base N12 "mirrored_book" (defScope (top 28)) (He.ga K "mirrored_book") cdv A outer s H E) n) :
    ∀ ρ, PSs (cxOf (L2.CX P w) P w K mg base N12 "mirrored_book" (defScope (top 28)) (He.ga K "mirrored_book") cdv A outer s H E) (defBody (top 28)) (rdS (gOf K (caOf K cn) E) (mB []) ρ (evSs pg (orc pg fs n) d12.np d12.body ρ)) :=
  (ss_cons (s_expr (e_callG T.e.tk C.c7.g T.e.rm T.e.gd rfl C.c7.m C.c7.k C.c7.b (a_cons (e_var (pv 0)) a_nil rfl) (by decide) rfl rfl) rfl)
  (ss_cons (s_ret (e_callG T.e.tk C.c9.g T.e.rm T.e.gd rfl C.c9.m C.c9.k C.c9.b (a_cons (e_var (pv 0)) a_nil rfl) (by decide) rfl rfl))
  (ss_nil _)))
theorem body13 {fd : Nat → FuncData} {n : Nat} {cdv : Value} {A : Around} {outer : List PySem.Env} {s : Shared} {H : Hp} {E : XK} (C : Cs P w K mg base fd n) (D : Ds K fd) (M : Mf K mg)
    (T : Tx (gOf K (caOf K cn) E) (cxOf (L2.CX P w) P w K mg base N13 "turned_over_book" (defScope (top 29)) (He.ga K "turned_over_book") cdv A outer s H E) n) :
    ∀ ρ, PSs (cxOf (L2.CX P w) P w K mg base N13 "turned_over_book" (defScope (top 29)) (He.ga K "turned_over_book") cdv A outer s H E) (defBody (top 29)) (rdS (gOf K (caOf K cn) E) (mB []) ρ (evSs pg (orc pg fs n) d13.np d13.body ρ)) :=
  (ss_cons (s_expr (e_callG T.e.tk C.c7.g T.e.rm T.e.gd rfl C.c7.m C.c7.k C.c7.b (a_cons (e_var (pv 0)) a_nil rfl) (by decide) rfl rfl) rfl)
  (ss_cons (s_ret (e_callG T.e.tk C.c10.g T.e.rm T.e.gd rfl C.c10.m C.c10.k C.c10.b (a_cons (e_var (pv 0)) a_nil rfl) (by decide) rfl rfl))
  (ss_nil _)))
theorem body14 {fd : Nat → FuncData} {n : Nat} {cdv : Value} {A : Around} {outer : List PySem.Env} {s : Shared} {H : Hp} {E : XK} (C : Cs P w K mg base fd n) (D : Ds K fd) (M : Mf K mg)
    (T : Tx (gOf K (caOf K cn) E) (cxOf (L2.CX P w) P w K mg base N14 "side_book" (defScope (top 30)) (He.ga K "side_book") cdv A outer s H E) n) :
    ∀ ρ, PSs (cxOf (L2.CX P w) P w K mg base N14 "side_book" (defScope (top 30)) (He.ga K "side_book") cdv A outer s H E) (defBody (top 30)) (rdS (gOf K (caOf K cn) E) (mB []) ρ (evSs pg (orc pg fs n) d14.np d14.body ρ)) :=
  (ss_cons (s_expr (e_callG T.e.tk C.c7.g T.e.rm T.e.gd rfl C.c7.m C.c7.k C.c7.b (a_cons (e_var (pv 0)) a_nil rfl) (by decide) rfl rfl) rfl)
  (ss_cons (s_ret (e_callG T.e.tk C.c11.g T.e.rm T.e.gd rfl C.c11.m C.c11.k C.c11.b (a_cons (e_var (pv 0)) a_nil rfl) (by decide) rfl rfl))
  (ss_nil _)))
theorem body15 {fd : Nat → FuncData} {n : Nat} {cdv : Value} {A : Around} {outer : List PySem.Env} {s : Shared} {H : Hp} {E : XK} (C : Cs P w K mg base fd n) (D : Ds K fd) (M : Mf K mg)
    (T : Tx (gOf K (caOf K cn) E) (cxOf (L2.CX P w) P w K mg base N15 "_law_feed" (defScope (top 32)) (He.ga K "_law_feed") cdv A outer s H E) n) :
    ∀ ρ, PSs (cxOf (L2.CX P w) P w K mg base N15 "_law_feed" (defScope (top 32)) (He.ga K "_law_feed") cdv A outer s H E) (defBody (top 32)) (rdS (gOf K (caOf K cn) E) (mB [2]) ρ (evSs pg (orc pg fs n) d15.np d15.body ρ)) :=
  (ss_cons (s_set nd15 rfl (Or.inl rfl) (e_bin o_add (e_bin o_mul (e_lit pe_int fun _ => .int _) (e_var (pv 1))) (e_bltB (c_sum T.e.calm) rfl M.f_sum (by decide +kernel) (a_cons (e_slc T.e.K (e_var (pv 0)) o_none (o_some (e_lit pe_int fun _ => .int _))) a_nil rfl) (by decide) (by decide) rfl rfl)) rfl rfl (Or.inl rfl))
  (ss_cons (s_if (t_cmp o_lt rfl (e_var (pv 1)) (e_bltB c_len rfl M.f_len (by decide +kernel) (a_cons (e_var (pv 0)) a_nil rfl) (by decide) (by decide) rfl rfl)) (ss_cons (s_set nd15 rfl (Or.inl rfl) (e_ix (ixr_any T.e.u1) (fun _ _ => rfl) (e_var (pv 0)) (e_var (pv 1))) rfl rfl (Or.inl rfl))
  (ss_nil _)) (ss_nil _))
  (ss_cons (s_ret (e_lst (a_cons (e_bltB (c_max T.e.calm) rfl M.f_max (by decide +kernel) (a_cons (e_lit pe_int fun _ => .int _) (a_cons (e_bin o_sub (e_var (pv 2)) (e_bin o_pow (e_lit pe_int fun _ => .int _) (e_lit pe_int fun _ => .int _))) a_nil rfl) rfl) (by decide) (by decide) rfl rfl) (a_cons (e_bin o_mod (e_bltT c_int rfl M.f_int (by decide +kernel) (a_cons (e_bin o_add (e_bin o_mul (e_var (pv 2)) (e_lit pe_int fun _ => .int _)) (e_bin o_mul (e_lit pe_int fun _ => .int _) (e_var (pv 1)))) a_nil rfl) (by decide) (by decide) rfl rfl) (e_bin o_add (e_bin o_pow (e_lit pe_int fun _ => .int _) (e_lit pe_int fun _ => .int _)) (e_lit pe_int fun _ => .int _))) (a_cons (e_lit pe_int fun _ => .int _) a_nil rfl) rfl) rfl)))
  (ss_nil _))))
theorem body16 {fd : Nat → FuncData} {n : Nat} {cdv : Value} {A : Around} {outer : List PySem.Env} {s : Shared} {H : Hp} {E : XK} (C : Cs P w K mg base fd n) (D : Ds K fd) (M : Mf K mg)
    (T : Tx (gOf K (caOf K cn) E) (cxOf (L2.CX P w) P w K mg base N16 "_law_draw" (defScope (top 33)) (He.ga K "_law_draw") cdv A outer s H E) n) :
    ∀ ρ, PSs (cxOf (L2.CX P w) P w K mg base N16 "_law_draw" (defScope (top 33)) (He.ga K "_law_draw") cdv A outer s H E) (defBody (top 33)) (rdS (gOf K (caOf K cn) E) (mB [2, 3, 4]) ρ (evSs pg (orc pg fs n) d16.np d16.body ρ)) :=
  (ss_cons (s_if (t_cmp o_gt rfl (e_ix (ixr_any T.e.u1) (fun _ _ => rfl) (e_var (pv 0)) (e_lit pe_int fun _ => .int _)) (e_lit pe_int fun _ => .int _)) (ss_cons (s_set nd16 rfl (Or.inl rfl) (e_bin o_fdiv (e_ix (ixr_any T.e.u1) (fun _ _ => rfl) (e_var (pv 0)) (e_lit pe_int fun _ => .int _)) (e_var (pv 1))) rfl rfl (Or.inl rfl))
  (ss_cons (s_set nd16 rfl (Or.inl rfl) (e_bin o_sub (e_ix (ixr_any T.e.u1) (fun _ _ => rfl) (e_var (pv 0)) (e_lit pe_int fun _ => .int _)) (e_bin o_mul (e_var (pv 2)) (e_var (pv 1)))) rfl rfl (Or.inl rfl))
  (ss_cons (s_setIx (pv 0) (e_lit pe_int fun _ => .int _) (e_var (pv 2)) T.e.u1 (fun _ => rfl) rfl rfl rfl)
  (ss_cons (s_ret (e_var (pv 3)))
  (ss_nil _))))) (ss_nil _))
  (ss_cons (s_setIx (pv 0) (e_lit pe_int fun _ => .int _) (e_bin o_add (e_ix (ixr_any T.e.u1) (fun _ _ => rfl) (e_var (pv 0)) (e_lit pe_int fun _ => .int _)) (e_lit pe_int fun _ => .int _)) T.e.u1 (fun _ => rfl) rfl rfl rfl)
  (ss_cons (s_set nd16 rfl (Or.inl rfl) (e_bin o_add (e_ix (ixr_any T.e.u1) (fun _ _ => rfl) (e_var (pv 0)) (e_lit pe_int fun _ => .int _)) (e_bin o_mul (e_lit pe_int fun _ => .int _) (e_ix (ixr_any T.e.u1) (fun _ _ => rfl) (e_var (pv 0)) (e_lit pe_int fun _ => .int _)))) rfl rfl (Or.inl rfl))
  (ss_cons (s_set nd16 rfl (Or.inl rfl) (e_bin o_mod (e_bltT c_int rfl M.f_int (by decide +kernel) (a_cons (e_bin o_add (e_bin o_mul (e_bin o_mul (e_var (pv 4)) (e_var (pv 4))) (e_var (pv 4))) (e_bin o_mul (e_lit pe_int fun _ => .int _) (e_ix (ixr_any T.e.u1) (fun _ _ => rfl) (e_var (pv 0)) (e_lit pe_int fun _ => .int _)))) a_nil rfl) (by decide) (by decide) rfl rfl) (e_bin o_add (e_bin o_pow (e_lit pe_int fun _ => .int _) (e_lit pe_int fun _ => .int _)) (e_lit pe_int fun _ => .int _))) rfl rfl (Or.inl rfl))
  (ss_cons (s_set nd16 rfl (Or.inl rfl) (e_bin o_mod (e_bltT c_int rfl M.f_int (by decide +kernel) (a_cons (e_bin o_add (e_bin o_mul (e_var (pv 4)) (e_var (pv 4))) (e_lit pe_int fun _ => .int _)) a_nil rfl) (by decide) (by decide) rfl rfl) (e_bin o_add (e_bin o_pow (e_lit pe_int fun _ => .int _) (e_lit pe_int fun _ => .int _)) (e_lit pe_int fun _ => .int _))) rfl rfl (Or.inl rfl))
  (ss_cons (s_ret (e_bin o_mod (e_bltT c_int rfl M.f_int (by decide +kernel) (a_cons (e_bin o_fdiv (e_var (pv 4)) (e_bin o_pow (e_lit pe_int fun _ => .int _) (e_lit pe_int fun _ => .int _))) a_nil rfl) (by decide) (by decide) rfl rfl) (e_var (pv 1))))
  (ss_nil _)))))))
theorem body17 {fd : Nat → FuncData} {n : Nat} {cdv : Value} {A : Around} {outer : List PySem.Env} {s : Shared} {H : Hp} {E : XK} (C : Cs P w K mg base fd n) (D : Ds K fd) (M : Mf K mg)
    (T : Tx (gOf K (caOf K cn) E) (cxOf (L2.CX P w) P w K mg base N17 "_law_one" (defScope (top 34)) (He.ga K "_law_one") cdv A outer s H E) n) :
    ∀ ρ, PSs (cxOf (L2.CX P w) P w K mg base N17 "_law_one" (defScope (top 34)) (He.ga K "_law_one") cdv A outer s H E) (defBody (top 34)) (rdS (gOf K (caOf K cn) E) (mB []) ρ (evSs pg (orc pg fs n) d17.np d17.body ρ)) :=
  (ss_cons (s_ret (e_ix (ixr_any T.e.u1) (fun _ _ => rfl) (e_var (pv 1)) (e_callG T.e.tk C.c16.g T.e.rm T.e.gd rfl C.c16.m C.c16.k C.c16.b (a_cons (e_var (pv 0)) (a_cons (e_bltB c_len rfl M.f_len (by decide +kernel) (a_cons (e_var (pv 1)) a_nil rfl) (by decide) (by decide) rfl rfl) a_nil rfl) rfl) (by decide) rfl rfl)))
  (ss_nil _))
theorem body18 {fd : Nat → FuncData} {n : Nat} {cdv : Value} {A : Around} {outer : List PySem.Env} {s : Shared} {H : Hp} {E : XK} (C : Cs P w K mg base fd n) (D : Ds K fd) (M : Mf K mg)
    (T : Tx (gOf K (caOf K cn) E) (cxOf (L2.CX P w) P w K mg base N18 "_law_mixed" (defScope (top 35)) (He.ga K "_law_mixed") cdv A outer s H E) n) :
    ∀ ρ, PSs (cxOf (L2.CX P w) P w K mg base N18 "_law_mixed" (defScope (top 35)) (He.ga K "_law_mixed") cdv A outer s H E) (defBody (top 35)) (rdS (gOf K (caOf K cn) E) (mB [2, 3, 4]) ρ (evSs pg (orc pg fs n) d18.np d18.body ρ)) :=
  (ss_cons (s_par2 T.e.calm nd18 rfl rfl (by decide) rfl rfl (a_cons (e_bltT c_list rfl M.f_list (by decide +kernel) (a_cons (e_var (pv 1)) a_nil rfl) (by decide) (by decide) rfl rfl) (a_cons (e_lst a_nil) a_nil rfl) rfl) (mB_all rfl) rfl rfl)
  (ss_cons (s_for (B' := mB [4]) T.e.K T.ps T.e.calm (i_rng1 rfl M.f_range rfl (a_cons (e_bltB c_len rfl M.f_len (by decide +kernel) (a_cons (e_var (pv 1)) a_nil rfl) (by decide) (by decide) rfl rfl) a_nil rfl)) (pg_name nd18 rfl (Or.inl rfl) (Or.inl rfl))
  (ss_cons (s_app (pv 3) (e_pop1 (pv 2) (e_callG T.e.tk C.c16.g T.e.rm T.e.gd rfl C.c16.m C.c16.k C.c16.b (a_cons (e_var (pv 0)) (a_cons (e_bltB c_len rfl M.f_len (by decide +kernel) (a_cons (e_var (pv 2)) a_nil rfl) (by decide) (by decide) rfl rfl) a_nil rfl) rfl) (by decide) rfl rfl) rfl rfl rfl rfl rfl) rfl rfl rfl rfl rfl rfl)
  (ss_nil _)) (mB_sub rfl) (mB_all rfl) hg_rng (fun _ => rfl))
  (ss_cons (s_ret (e_var (pv 3)))
  (ss_nil _))))
theorem body19 {fd : Nat → FuncData} {n : Nat} {cdv : Value} {A : Around} {outer : List PySem.Env} {s : Shared} {H : Hp} {E : XK} (C : Cs P w K mg base fd n) (D : Ds K fd) (M : Mf K mg)
    (T : Tx (gOf K (caOf K cn) E) (cxOf (L2.CX P w) P w K mg base N19 "_law_no_book" (defScope (top 36)) (He.ga K "_law_no_book") cdv A outer s H E) n) :
    ∀ ρ, PSs (cxOf (L2.CX P w) P w K mg base N19 "_law_no_book" (defScope (top 36)) (He.ga K "_law_no_book") cdv A outer s H E) (defBody (top 36)) (rdS (gOf K (caOf K cn) E) (mB [2, 3, 4, 5, 6, 7, 8, 9, 10, 11, 12]) ρ (evSs pg (orc pg fs n) d19.np d19.body ρ)) :=
  (ss_cons (s_asgT T.e.K (e_var (pv 1)) (pg_tup T.e.calm (pgs_cons (pg_name nd19 rfl (Or.inl rfl) (Or.inl rfl)) (pgs_cons (pg_name nd19 rfl (Or.inl rfl) (Or.inl rfl)) (pgs_cons (pg_name nd19 rfl (Or.inl rfl) (Or.inl rfl)) pgs_nil rfl) rfl) rfl) rfl rfl) (mB_all rfl) rfl rfl rfl)
  (ss_cons (s_set nd19 rfl (Or.inl rfl) (e_callG T.e.tk C.c17.g T.e.rm T.e.gd rfl C.c17.m C.c17.k C.c17.b (a_cons (e_var (pv 0)) (a_cons (e_lst (a_cons (e_lit pe_str fun _ => .str _) (a_cons (e_lit pe_str fun _ => .str _) (a_cons (e_lit pe_str fun _ => .str _) (a_cons (e_lit pe_non fun _ => .non) (a_cons (e_lit pe_int fun _ => .int _) (a_cons (e_lit pe_bl fun _ => .bl _) (a_cons (e_tup (a_cons (e_lit pe_str fun _ => .str _) a_nil rfl)) (a_cons (e_lst (a_cons (e_lit pe_str fun _ => .str _) a_nil rfl)) (a_cons (e_lit pe_str fun _ => .str _) a_nil rfl) rfl) rfl) rfl) rfl) rfl) rfl) rfl) rfl)) a_nil rfl) rfl) (by decide) rfl rfl) rfl rfl (Or.inl rfl))
  (ss_cons (s_set nd19 rfl (Or.inl rfl) (e_lst (a_cons (e_lit pe_non fun _ => .non) (a_cons (e_bltT c_list rfl M.f_list (by decide +kernel) (a_cons (e_var (pv 1)) a_nil rfl) (by decide) (by decide) rfl rfl) (a_cons (e_tup (a_cons (e_var (pv 2)) (a_cons (e_var (pv 3)) a_nil rfl) rfl)) (a_cons (e_bin o_add (e_var (pv 1)) (e_tup (a_cons (e_var (pv 4)) a_nil rfl))) (a_cons (e_tup (a_cons (e_var (pv 2)) (a_cons (e_bltT c_list rfl M.f_list (by decide +kernel) (a_cons (e_var (pv 3)) a_nil rfl) (by decide) (by decide) rfl rfl) (a_cons (e_var (pv 4)) a_nil rfl) rfl) rfl)) (a_cons (e_tup (a_cons (e_var (pv 2)) (a_cons (e_var (pv 3)) (a_cons (e_var (pv 5)) a_nil rfl) rfl) rfl)) (a_cons (e_tup (a_cons (e_var (pv 2)) (a_cons (e_lit pe_non fun _ => .non) (a_cons (e_var (pv 4)) a_nil rfl) rfl) rfl)) (a_cons (e_lit pe_int fun _ => .int _) (a_cons (e_lit pe_str fun _ => .str _) (a_cons e_dic0 a_nil rfl) rfl) rfl) rfl) rfl) rfl) rfl) rfl) rfl) rfl)) rfl rfl (Or.inl rfl))
  (ss_cons (s_set nd19 rfl (Or.inl rfl) (e_bin o_add (e_var (pv 6)) (e_lst (a_cons (e_tup (a_cons (e_rev T.e.K (e_var (pv 2))) (a_cons (e_var (pv 3)) (a_cons (e_var (pv 4)) a_nil rfl) rfl) rfl)) (a_cons (e_tup (a_cons (e_slc T.e.K (e_var (pv 2)) o_none (o_some (e_lit pe_int fun _ => .int _))) (a_cons (e_var (pv 3)) (a_cons (e_var (pv 4)) a_nil rfl) rfl) rfl)) (a_cons (e_tup (a_cons (e_bltT c_list rfl M.f_list (by decide +kernel) (a_cons (e_var (pv 2)) a_nil rfl) (by decide) (by decide) rfl rfl) (a_cons (e_var (pv 3)) (a_cons (e_var (pv 4)) a_nil rfl) rfl) rfl)) (a_cons (e_tup (a_cons (e_tup (a_cons (e_lit pe_str fun _ => .str _) (a_cons (e_lit pe_str fun _ => .str _) a_nil rfl) rfl)) (a_cons (e_var (pv 3)) (a_cons (e_var (pv 4)) a_nil rfl) rfl) rfl)) (a_cons (e_tup (a_cons (e_lit pe_str fun _ => .str _) (a_cons (e_var (pv 3)) (a_cons (e_var (pv 4)) a_nil rfl) rfl) rfl)) a_nil rfl) rfl) rfl) rfl) rfl))) rfl rfl (Or.inl rfl))
  (ss_cons (s_set nd19 rfl (Or.inl rfl) (e_bin o_add (e_var (pv 6)) (e_lst (a_cons (e_tup (a_cons (e_tup (a_cons (e_lit pe_str fun _ => .str _) (a_cons (e_lit pe_str fun _ => .str _) a_nil rfl) rfl)) (a_cons (e_var (pv 3)) (a_cons (e_var (pv 4)) a_nil rfl) rfl) rfl)) (a_cons (e_tup (a_cons (e_tup (a_cons (e_lit pe_str fun _ => .str _) (a_cons (e_lit pe_str fun _ => .str _) a_nil rfl) rfl)) (a_cons (e_var (pv 3)) (a_cons (e_var (pv 4)) a_nil rfl) rfl) rfl)) (a_cons (e_tup (a_cons (e_lit pe_non fun _ => .non) (a_cons (e_var (pv 3)) (a_cons (e_var (pv 4)) a_nil rfl) rfl) rfl)) (a_cons (e_tup (a_cons (e_bin o_add (e_var (pv 2)) (e_tup (a_cons (e_lit pe_str fun _ => .str _) a_nil rfl))) (a_cons (e_var (pv 3)) (a_cons (e_var (pv 4)) a_nil rfl) rfl) rfl)) a_nil rfl) rfl) rfl) rfl))) rfl rfl (Or.inl rfl))
  (ss_cons (s_set nd19 rfl (Or.inl rfl) (e_tup (a_cons (e_lit pe_str fun _ => .str _) (a_cons (e_lit pe_non fun _ => .non) (a_cons (e_lit pe_str fun _ => .str _) (a_cons (e_lit pe_non fun _ => .non) (a_cons (e_lit pe_str fun _ => .str _) a_nil rfl) rfl) rfl) rfl) rfl)) rfl rfl (Or.inl rfl))
  (ss_cons (s_set nd19 rfl (Or.inl rfl) (e_callG T.e.tk C.c17.g T.e.rm T.e.gd rfl C.c17.m C.c17.k C.c17.b (a_cons (e_var (pv 0)) (a_cons (e_lst (a_cons (e_lit pe_str fun _ => .str _) (a_cons (e_lit pe_str fun _ => .str _) (a_cons (e_lit pe_str fun _ => .str _) (a_cons (e_lit pe_str fun _ => .str _) (a_cons (e_lit pe_int fun _ => .int _) (a_cons (e_lit pe_bl fun _ => .bl _) (a_cons (e_tup (a_cons (e_lit pe_str fun _ => .str _) a_nil rfl)) (a_cons (e_lst (a_cons (e_lit pe_str fun _ => .str _) a_nil rfl)) (a_cons (e_lit pe_str fun _ => .str _) (a_cons (e_lit pe_str fun _ => .str _) a_nil rfl) rfl) rfl) rfl) rfl) rfl) rfl) rfl) rfl) rfl)) a_nil rfl) rfl) (by decide) rfl rfl) rfl rfl (Or.inl rfl))
  (ss_cons (s_set nd19 rfl (Or.inl rfl) (e_callG T.e.tk C.c16.g T.e.rm T.e.gd rfl C.c16.m C.c16.k C.c16.b (a_cons (e_var (pv 0)) (a_cons (e_lit pe_int fun _ => .int _) a_nil rfl) rfl) (by decide) rfl rfl) rfl rfl (Or.inl rfl))
  (ss_cons (s_set nd19 rfl (Or.inl rfl) (e_lst (a_cons (e_bin o_add (e_bin o_add (e_slc T.e.K (e_var (pv 7)) o_none (o_some (e_var (pv 9)))) (e_tup (a_cons (e_var (pv 8)) a_nil rfl))) (e_slc T.e.K (e_var (pv 7)) (o_some (e_bin o_add (e_var (pv 9)) (e_lit pe_int fun _ => .int _))) o_none)) (a_cons (e_bin o_add (e_slc T.e.K (e_var (pv 7)) o_none (o_some (e_lit pe_int fun _ => .int _))) (e_tup (a_cons (e_var (pv 5)) a_nil rfl))) (a_cons (e_bltT c_list rfl M.f_list (by decide +kernel) (a_cons (e_var (pv 7)) a_nil rfl) (by decide) (by decide) rfl rfl) (a_cons (e_slc T.e.K (e_var (pv 7)) (o_some (e_lit pe_int fun _ => .int _)) o_none) (a_cons (e_bin o_add (e_var (pv 7)) (e_tup (a_cons (e_lit pe_str fun _ => .str _) a_nil rfl))) (a_cons (e_slc T.e.K (e_var (pv 7)) o_none (o_some (e_lit pe_int fun _ => .int _))) (a_cons (e_lit pe_non fun _ => .non) (a_cons (e_lit pe_str fun _ => .str _) (a_cons (e_tup a_nil) a_nil rfl) rfl) rfl) rfl) rfl) rfl) rfl) rfl) rfl)) rfl rfl (Or.inl rfl))
  (ss_cons (s_par2 T.e.calm nd19 rfl rfl (by decide) rfl rfl (a_cons (e_callG T.e.tk C.c17.g T.e.rm T.e.gd rfl C.c17.m C.c17.k C.c17.b (a_cons (e_var (pv 0)) (a_cons (e_var (pv 10)) a_nil rfl) rfl) (by decide) rfl rfl) (a_cons (e_callG T.e.tk C.c16.g T.e.rm T.e.gd rfl C.c16.m C.c16.k C.c16.b (a_cons (e_var (pv 0)) (a_cons (e_bin o_add (e_bltB c_len rfl M.f_len (by decide +kernel) (a_cons (e_var (pv 3)) a_nil rfl) (by decide) (by decide) rfl rfl) (e_lit pe_int fun _ => .int _)) a_nil rfl) rfl) (by decide) rfl rfl) a_nil rfl) rfl) (mB_all rfl) rfl rfl)
  (ss_cons (s_set nd19 rfl (Or.inl rfl) (e_bin o_add (e_bin o_add (e_var (pv 6)) (e_bin o_mul (e_lst (a_cons (e_tup (a_cons (e_var (pv 2)) (a_cons (e_bin o_add (e_bin o_add (e_slc T.e.K (e_var (pv 3)) o_none (o_some (e_var (pv 12)))) (e_tup (a_cons (e_var (pv 11)) a_nil rfl))) (e_slc T.e.K (e_var (pv 3)) (o_some (e_var (pv 12))) o_none)) (a_cons (e_var (pv 4)) a_nil rfl) rfl) rfl)) a_nil rfl)) (e_lit pe_int fun _ => .int _))) (e_lst (a_cons (e_tup (a_cons (e_var (pv 2)) (a_cons (e_bin o_mul (e_tup (a_cons (e_var (pv 7)) a_nil rfl)) (e_lit pe_int fun _ => .int _)) (a_cons (e_var (pv 4)) a_nil rfl) rfl) rfl)) (a_cons (e_tup (a_cons (e_var (pv 2)) (a_cons (e_bin o_mul (e_tup (a_cons (e_var (pv 7)) a_nil rfl)) (e_lit pe_int fun _ => .int _)) (a_cons (e_var (pv 4)) a_nil rfl) rfl) rfl)) a_nil rfl) rfl))) rfl rfl (Or.inl rfl))
  (ss_cons (s_ret (e_callG T.e.tk C.c17.g T.e.rm T.e.gd rfl C.c17.m C.c17.k C.c17.b (a_cons (e_var (pv 0)) (a_cons (e_var (pv 6)) a_nil rfl) rfl) (by decide) rfl rfl))
  (ss_nil _)))))))))))))
theorem body20 {fd : Nat → FuncData} {n : Nat} {cdv : Value} {A : Around} {outer : List PySem.Env} {s : Shared} {H : Hp} {E : XK} (C : Cs P w K mg base fd n) (D : Ds K fd) (M : Mf K mg)
    (T : Tx (gOf K (caOf K cn) E) (cxOf (L2.CX P w) P w K mg base N20 "_law_drawn_book" (defScope (top 37)) (He.ga K "_law_drawn_book") cdv A outer s H E) n) :
    ∀ ρ, PSs (cxOf (L2.CX P w) P w K mg base N20 "_law_drawn_book" (defScope (top 37)) (He.ga K "_law_drawn_book") cdv A outer s H E) (defBody (top 37)) (rdS (gOf K (caOf K cn) E) (mB [1, 2, 3, 5]) ρ (evSs pg (orc pg fs n) d20.np d20.body ρ)) :=
  (ss_cons (s_set nd20 rfl (Or.inl rfl) (e_lst a_nil) rfl rfl (Or.inl rfl))
  (ss_cons (s_for (B' := mB [2, 3]) T.e.K T.ps T.e.calm (i_rng1 rfl M.f_range rfl (a_cons (e_callG T.e.tk C.c17.g T.e.rm T.e.gd rfl C.c17.m C.c17.k C.c17.b (a_cons (e_var (pv 0)) (a_cons (e_lst (a_cons (e_callG T.e.tk C.c16.g T.e.rm T.e.gd rfl C.c16.m C.c16.k C.c16.b (a_cons (e_var (pv 0)) (a_cons (e_lit pe_int fun _ => .int _) a_nil rfl) rfl) (by decide) rfl rfl) (a_cons (e_callG T.e.tk C.c16.g T.e.rm T.e.gd rfl C.c16.m C.c16.k C.c16.b (a_cons (e_var (pv 0)) (a_cons (e_lit pe_int fun _ => .int _) a_nil rfl) rfl) (by decide) rfl rfl) (a_cons (e_lit pe_int fun _ => .int _) a_nil rfl) rfl) rfl)) a_nil rfl) rfl) (by decide) rfl rfl) a_nil rfl)) (pg_name nd20 rfl (Or.inl rfl) (Or.inl rfl))
  (ss_cons (s_set nd20 rfl (Or.inl rfl) (e_bltT c_tuple rfl M.f_tuple (by decide +kernel) (a_cons (e_lc (own := [("_law_corner", 4)]) T.e.K T.e.calm nd20 (show BlkOk N20 sc20 _ _ from ⟨rfl, by decide +kernel, by decide +kernel, by decide +kernel, by decide +kernel⟩) (by decide) (i_rng1 rfl M.f_range rfl (a_cons (e_lit pe_int fun _ => .int _) a_nil rfl)) (fun s_ H_ cc_ cl_ fp_ => (pg_name nd20 rfl (Or.inl rfl) (Or.inr rfl))) (fun s_ H_ cc_ cl_ fp_ => pts_u0) (fun s_ H_ cc_ cl_ fp_ => pe_u (e_callG T.e.blk.tk C.c17.g T.e.blk.rm T.e.blk.gd rfl C.c17.m C.c17.k C.c17.b (a_cons (e_var (pv 0)) (a_cons (e_lst (a_cons (e_lit pe_str fun _ => .str _) (a_cons (e_lit pe_str fun _ => .str _) (a_cons (e_lit pe_str fun _ => .str _) (a_cons (e_lit pe_str fun _ => .str _) (a_cons (e_lit pe_non fun _ => .non) (a_cons (e_lit pe_non fun _ => .non) a_nil rfl) rfl) rfl) rfl) rfl) rfl)) a_nil rfl) rfl) (by decide) rfl rfl)) (fun _ => rfl)) a_nil rfl) (by decide) (by decide) rfl rfl) rfl rfl (Or.inl rfl))
  (ss_cons (s_app (pv 1) (e_bin o_add (e_var (pv 3)) (e_tup (a_cons (e_callG T.e.tk C.c17.g T.e.rm T.e.gd rfl C.c17.m C.c17.k C.c17.b (a_cons (e_var (pv 0)) (a_cons (e_lst (a_cons (e_lit pe_str fun _ => .str _) (a_cons (e_lit pe_str fun _ => .str _) a_nil rfl) rfl)) a_nil rfl) rfl) (by decide) rfl rfl) a_nil rfl))) rfl rfl rfl rfl rfl rfl)
  (ss_nil _))) (mB_sub rfl) (mB_all rfl) hg_rng (fun _ => rfl))
  (ss_cons (s_set nd20 rfl (Or.inl rfl) (e_tup (a_cons (e_callG T.e.tk C.c17.g T.e.rm T.e.gd rfl C.c17.m C.c17.k C.c17.b (a_cons (e_var (pv 0)) (a_cons (e_lst (a_cons (e_lit pe_str fun _ => .str _) (a_cons (e_lit pe_str fun _ => .str _) a_nil rfl) rfl)) a_nil rfl) rfl) (by decide) rfl rfl) (a_cons (e_callG T.e.tk C.c17.g T.e.rm T.e.gd rfl C.c17.m C.c17.k C.c17.b (a_cons (e_var (pv 0)) (a_cons (e_lst (a_cons (e_lit pe_str fun _ => .str _) (a_cons (e_lit pe_str fun _ => .str _) a_nil rfl) rfl)) a_nil rfl) rfl) (by decide) rfl rfl) a_nil rfl) rfl)) rfl rfl (Or.inl rfl))
  (ss_cons (s_ret (e_tup (a_cons (e_var (pv 5)) (a_cons (e_bltT c_tuple rfl M.f_tuple (by decide +kernel) (a_cons (e_var (pv 1)) a_nil rfl) (by decide) (by decide) rfl rfl) (a_cons (e_callG T.e.tk C.c17.g T.e.rm T.e.gd rfl C.c17.m C.c17.k C.c17.b (a_cons (e_var (pv 0)) (a_cons (e_lst (a_cons (e_lit pe_str fun _ => .str _) (a_cons (e_lit pe_str fun _ => .str _) a_nil rfl) rfl)) a_nil rfl) rfl) (by decide) rfl rfl) a_nil rfl) rfl) rfl)))
  (ss_nil _)))))
theorem body21 {fd : Nat → FuncData} {n : Nat} {cdv : Value} {A : Around} {outer : List PySem.Env} {s : Shared} {H : Hp} {E : XK} (C : Cs P w K mg base fd n) (D : Ds K fd) (M : Mf K mg)
    (T : Tx (gOf K (caOf K cn) E) (cxOf (L2.CX P w) P w K mg base N21 "_law_turned" (defScope (top 38)) (He.ga K "_law_turned") cdv A outer s H E) n) :
    ∀ ρ, PSs (cxOf (L2.CX P w) P w K mg base N21 "_law_turned" (defScope (top 38)) (He.ga K "_law_turned") cdv A outer s H E) (defBody (top 38)) (rdS (gOf K (caOf K cn) E) (mB [2, 3, 4, 5, 7]) ρ (evSs pg (orc pg fs n) d21.np d21.body ρ)) :=
  (ss_cons (s_asgT T.e.K (e_var (pv 0)) (pg_tup T.e.calm (pgs_cons (pg_name nd21 rfl (Or.inl rfl) (Or.inl rfl)) (pgs_cons (pg_name nd21 rfl (Or.inl rfl) (Or.inl rfl)) (pgs_cons (pg_name nd21 rfl (Or.inl rfl) (Or.inl rfl)) pgs_nil rfl) rfl) rfl) rfl rfl) (mB_all rfl) rfl rfl rfl)
  (ss_cons (s_set nd21 rfl (Or.inr rfl) (e_dic (ps := [((.lit (.str "left")), (.lit (.str "right"))), ((.lit (.str "right")), (.lit (.str "left"))), ((.lit (.str "upper")), (.lit (.str "lower"))), ((.lit (.str "lower")), (.lit (.str "upper"))), ((.lit (.str "across")), (.lit (.str "down"))), ((.lit (.str "down")), (.lit (.str "across")))]) (pp_cons (e_lit pe_str fun _ => .str _) (e_lit pe_str fun _ => .str _) (pp_cons (e_lit pe_str fun _ => .str _) (e_lit pe_str fun _ => .str _) (pp_cons (e_lit pe_str fun _ => .str _) (e_lit pe_str fun _ => .str _) (pp_cons (e_lit pe_str fun _ => .str _) (e_lit pe_str fun _ => .str _) (pp_cons (e_lit pe_str fun _ => .str _) (e_lit pe_str fun _ => .str _) (pp_cons (e_lit pe_str fun _ => .str _) (e_lit pe_str fun _ => .str _) pps_nil)))))) rfl rfl (by simp) (by decide) (by decide)) rfl rfl (Or.inl rfl))
  (ss_cons (s_if (t_cmp (o_eq T.e.u64) rfl (e_var (pv 1)) (e_lit pe_int fun _ => .int _)) (ss_cons (s_ret (e_tup (a_cons (e_tup (a_cons (e_ix (ixr_any T.e.u1) (fun _ _ => rfl) (e_var (pv 5)) (e_ix (ixr_any T.e.u1) (fun _ _ => rfl) (e_var (pv 2)) (e_lit pe_int fun _ => .int _))) (a_cons (e_ix (ixr_any T.e.u1) (fun _ _ => rfl) (e_var (pv 2)) (e_lit pe_int fun _ => .int _)) a_nil rfl) rfl)) (a_cons (e_bltT c_tuple rfl M.f_tuple (by decide +kernel) (a_cons (e_lc (own := [("_law_rule", 6)]) T.e.K T.e.calm nd21 (show BlkOk N21 sc21 _ _ from ⟨rfl, by decide +kernel, by decide +kernel, by decide +kernel, by decide +kernel⟩) (by decide) (i_val T.e.K (e_var (pv 3))) (fun s_ H_ cc_ cl_ fp_ => (pg_name nd21 rfl (Or.inl rfl) (Or.inr rfl))) (fun s_ H_ cc_ cl_ fp_ => pts_u0) (fun s_ H_ cc_ cl_ fp_ => pe_u (e_tup (a_cons (e_ix (ixr_any T.e.blk.u1) (fun _ _ => rfl) (e_var (pv 6)) (e_lit pe_int fun _ => .int _)) (a_cons (e_ix (ixr_any T.e.blk.u1) (fun _ _ => rfl) (e_var (pv 6)) (e_lit pe_int fun _ => .int _)) (a_cons (e_ix (ixr_any T.e.blk.u1) (fun _ _ => rfl) (e_var (pv 6)) (e_lit pe_int fun _ => .int _)) (a_cons (e_ix (ixr_any T.e.blk.u1) (fun _ _ => rfl) (e_var (pv 6)) (e_lit pe_int fun _ => .int _)) (a_cons (e_ix (ixr_any T.e.blk.u1) (fun _ _ => rfl) (e_var (pv 6)) (e_lit pe_int fun _ => .int _)) a_nil rfl) rfl) rfl) rfl) rfl))) (fun _ => rfl)) a_nil rfl) (by decide) (by decide) rfl rfl) (a_cons (e_var (pv 4)) a_nil rfl) rfl) rfl)))
  (ss_nil _)) (ss_nil _))
  (ss_cons (s_if (t_cmp (o_eq T.e.u64) rfl (e_var (pv 1)) (e_lit pe_int fun _ => .int _)) (ss_cons (s_ret (e_tup (a_cons (e_tup (a_cons (e_ix (ixr_any T.e.u1) (fun _ _ => rfl) (e_var (pv 2)) (e_lit pe_int fun _ => .int _)) (a_cons (e_ix (ixr_any T.e.u1) (fun _ _ => rfl) (e_var (pv 5)) (e_ix (ixr_any T.e.u1) (fun _ _ => rfl) (e_var (pv 2)) (e_lit pe_int fun _ => .int _))) a_nil rfl) rfl)) (a_cons (e_bltT c_tuple rfl M.f_tuple (by decide +kernel) (a_cons (e_lc (own := [("_law_rule", 6)]) T.e.K T.e.calm nd21 (show BlkOk N21 sc21 _ _ from ⟨rfl, by decide +kernel, by decide +kernel, by decide +kernel, by decide +kernel⟩) (by decide) (i_val T.e.K (e_var (pv 3))) (fun s_ H_ cc_ cl_ fp_ => (pg_name nd21 rfl (Or.inl rfl) (Or.inr rfl))) (fun s_ H_ cc_ cl_ fp_ => pts_u0) (fun s_ H_ cc_ cl_ fp_ => pe_u (e_tup (a_cons (e_ix (ixr_any T.e.blk.u1) (fun _ _ => rfl) (e_var (pv 6)) (e_lit pe_int fun _ => .int _)) (a_cons (e_ix (ixr_any T.e.blk.u1) (fun _ _ => rfl) (e_var (pv 6)) (e_lit pe_int fun _ => .int _)) (a_cons (e_ix (ixr_any T.e.blk.u1) (fun _ _ => rfl) (e_var (pv 6)) (e_lit pe_int fun _ => .int _)) (a_cons (e_ix (ixr_any T.e.blk.u1) (fun _ _ => rfl) (e_var (pv 6)) (e_lit pe_int fun _ => .int _)) (a_cons (e_ix (ixr_any T.e.blk.u1) (fun _ _ => rfl) (e_var (pv 6)) (e_lit pe_int fun _ => .int _)) a_nil rfl) rfl) rfl) rfl) rfl))) (fun _ => rfl)) a_nil rfl) (by decide) (by decide) rfl rfl) (a_cons (e_var (pv 4)) a_nil rfl) rfl) rfl)))
  (ss_nil _)) (ss_nil _))
  (ss_cons (s_set nd21 rfl (Or.inl rfl) (e_tup (a_cons (e_ife (t_cmp (o_eq T.e.u64) rfl (e_ix (ixr_any T.e.u1) (fun _ _ => rfl) (e_var (pv 2)) (e_lit pe_int fun _ => .int _)) (e_lit pe_str fun _ => .str _)) (e_lit pe_str fun _ => .str _) (e_lit pe_str fun _ => .str _)) (a_cons (e_ife (t_cmp (o_eq T.e.u64) rfl (e_ix (ixr_any T.e.u1) (fun _ _ => rfl) (e_var (pv 2)) (e_lit pe_int fun _ => .int _)) (e_lit pe_str fun _ => .str _)) (e_lit pe_str fun _ => .str _) (e_lit pe_str fun _ => .str _)) a_nil rfl) rfl)) rfl rfl (Or.inl rfl))
  (ss_cons (s_ret (e_tup (a_cons (e_var (pv 7)) (a_cons (e_bltT c_tuple rfl M.f_tuple (by decide +kernel) (a_cons (e_lc (own := [("_law_rule", 6)]) T.e.K T.e.calm nd21 (show BlkOk N21 sc21 _ _ from ⟨rfl, by decide +kernel, by decide +kernel, by decide +kernel, by decide +kernel⟩) (by decide) (i_val T.e.K (e_var (pv 3))) (fun s_ H_ cc_ cl_ fp_ => (pg_name nd21 rfl (Or.inl rfl) (Or.inr rfl))) (fun s_ H_ cc_ cl_ fp_ => pts_u0) (fun s_ H_ cc_ cl_ fp_ => pe_u (e_tup (a_cons (e_ix (ixr_any T.e.blk.u1) (fun _ _ => rfl) (e_var (pv 6)) (e_lit pe_int fun _ => .int _)) (a_cons (e_ix (ixr_any T.e.blk.u1) (fun _ _ => rfl) (e_var (pv 6)) (e_lit pe_int fun _ => .int _)) (a_cons (e_ix (ixr_any T.e.blk.u1) (fun _ _ => rfl) (e_var (pv 6)) (e_lit pe_int fun _ => .int _)) (a_cons (e_ix (ixr_any T.e.blk.u1) (fun _ _ => rfl) (e_var (pv 6)) (e_lit pe_int fun _ => .int _)) (a_cons (e_ix (ixr_any T.e.blk.u1) (fun _ _ => rfl) (e_var (pv 5)) (e_ix (ixr_any T.e.blk.u1) (fun _ _ => rfl) (e_var (pv 6)) (e_lit pe_int fun _ => .int _))) a_nil rfl) rfl) rfl) rfl) rfl))) (fun _ => rfl)) a_nil rfl) (by decide) (by decide) rfl rfl) (a_cons (e_ix (ixr_any T.e.u1) (fun _ _ => rfl) (e_var (pv 5)) (e_var (pv 4))) a_nil rfl) rfl) rfl)))
  (ss_nil _)))))))
theorem body22 {fd : Nat → FuncData} {n : Nat} {cdv : Value} {A : Around} {outer : List PySem.Env} {s : Shared} {H : Hp} {E : XK} (C : Cs P w K mg base fd n) (D : Ds K fd) (M : Mf K mg)
    (T : Tx (gOf K (caOf K cn) E) (cxOf (L2.CX P w) P w K mg base N22 "_law_told" (defScope (top 39)) (He.ga K "_law_told") cdv A outer s H E) n) :
    ∀ ρ, PSs (cxOf (L2.CX P w) P w K mg base N22 "_law_told" (defScope (top 39)) (He.ga K "_law_told") cdv A outer s H E) (defBody (top 39)) (rdS (gOf K (caOf K cn) E) (mB []) ρ (evSs pg (orc pg fs n) d22.np d22.body ρ)) :=
  (ss_cons (s_if (t_cmp (o_eq T.e.u64) rfl (e_var (pv 1)) (e_lit pe_int fun _ => .int _)) (ss_cons (s_ret (e_ife (t_val (e_var (pv 2)) T.e.K (fun _ => rfl)) (e_callk0 T.e.tk C.c12.g T.e.rm T.e.gd rfl C.c12.m C.c12.k (kb0 D) (by decide) rfl (k_cons (e_var (pv 0)) k_nil) rfl rfl (by decide) rfl) (e_callG T.e.tk C.c12.g T.e.rm T.e.gd rfl C.c12.m C.c12.k C.c12.b (a_cons (e_var (pv 0)) a_nil rfl) (by decide) rfl rfl)))
  (ss_nil _)) (ss_nil _))
  (ss_cons (s_if (t_cmp (o_eq T.e.u64) rfl (e_var (pv 1)) (e_lit pe_int fun _ => .int _)) (ss_cons (s_ret (e_ife (t_val (e_var (pv 2)) T.e.K (fun _ => rfl)) (e_callk0 T.e.tk C.c13.g T.e.rm T.e.gd rfl C.c13.m C.c13.k (kb1 D) (by decide) rfl (k_cons (e_var (pv 0)) k_nil) rfl rfl (by decide) rfl) (e_callG T.e.tk C.c13.g T.e.rm T.e.gd rfl C.c13.m C.c13.k C.c13.b (a_cons (e_var (pv 0)) a_nil rfl) (by decide) rfl rfl)))
  (ss_nil _)) (ss_nil _))
  (ss_cons (s_ret (e_ife (t_val (e_var (pv 2)) T.e.K (fun _ => rfl)) (e_callk0 T.e.tk C.c14.g T.e.rm T.e.gd rfl C.c14.m C.c14.k (kb2 D) (by decide) rfl (k_cons (e_var (pv 0)) k_nil) rfl rfl (by decide) rfl) (e_callG T.e.tk C.c14.g T.e.rm T.e.gd rfl C.c14.m C.c14.k C.c14.b (a_cons (e_var (pv 0)) a_nil rfl) (by decide) rfl rfl)))
  (ss_nil _))))
theorem body23 {fd : Nat → FuncData} {n : Nat} {cdv : Value} {A : Around} {outer : List PySem.Env} {s : Shared} {H : Hp} {E : XK} (C : Cs P w K mg base fd n) (D : Ds K fd) (M : Mf K mg)
    (T : Tx (gOf K (caOf K cn) E) (cxOf (L2.CX P w) P w K mg base N23 "_law_is_refused" (defScope (top 40)) (He.ga K "_law_is_refused") cdv A outer s H E) n) :
    ∀ ρ, PSs (cxOf (L2.CX P w) P w K mg base N23 "_law_is_refused" (defScope (top 40)) (He.ga K "_law_is_refused") cdv A outer s H E) (defBody (top 40)) (rdS (gOf K (caOf K cn) E) (mB [3, 4]) ρ (evSs pg (orc pg fs n) d23.np d23.body ρ)) :=
  (ss_cons (s_set nd23 rfl (Or.inl rfl) (e_lit pe_non fun _ => .non) rfl rfl (Or.inl rfl))
  (s_tryK (k := 0) rfl rfl nd23 rfl rfl ⟨rfl, by decide, Or.inl M.g_SignError⟩ T.e.tk T.e.K (fun c => M.xx.exm c 0) rfl (fun W pn xe t q => (ss_cons (s_expr (e_callG (T.tr t q).e.tk C.c22.g (T.tr t q).e.rm (T.tr t q).e.gd rfl C.c22.m C.c22.k C.c22.b (a_cons (e_var (pv 0)) (a_cons (e_var (pv 1)) (a_cons (e_var (pv 2)) a_nil rfl) rfl) rfl) (by decide) rfl rfl) rfl)
  (ss_nil _))) (fun a oe c d pn z v => (ss_cons (s_set nd23 rfl (Or.inl rfl) (e_var (pv 4)) rfl rfl (Or.inl rfl))
  (ss_nil _)))
  (ss_cons (s_ret (e_isx0 (k := 1) (fun _ _ _ h => h) (e_var (pv 3)) rfl M.f_isinstance (e_gn rfl ⟨_, M.g_BadBook, rfl⟩ rfl) rfl rfl rfl))
  (ss_nil _))
  (fun a oe c d pn z v hp => (ss_cons (s_ret (e_isxK (k := 1) List.mem_cons_self (Tx.kp (a := a) (oe := oe) (c := c) (d := d) T hp).e.K (M.xx.cls c) z v (M.xx.kit c 1) (e_var (pv 3)) rfl M.f_isinstance (e_gn rfl ⟨_, M.g_BadBook, rfl⟩ rfl) rfl rfl rfl))
  (ss_nil _)))))
theorem body24 {fd : Nat → FuncData} {n : Nat} {cdv : Value} {A : Around} {outer : List PySem.Env} {s : Shared} {H : Hp} {E : XK} (C : Cs P w K mg base fd n) (D : Ds K fd) (M : Mf K mg)
    (T : Tx (gOf K (caOf K cn) E) (cxOf (L2.CX P w) P w K mg base N24 "law" (defScope (top 41)) (He.ga K "law") cdv A outer s H E) n) :
    ∀ ρ, PSs (cxOf (L2.CX P w) P w K mg base N24 "law" (defScope (top 41)) (He.ga K "law") cdv A outer s H E) (defBody (top 41)) (rdS (gOf K (caOf K cn) E) (mB [1, 2, 3, 4, 5, 6, 7]) ρ (evSs pg (orc pg fs n) d24.np d24.body ρ)) :=
  (ss_cons (s_for (B' := mB [1, 2, 3, 4, 5, 6, 7]) T.e.K T.ps T.e.calm (i_rng1 rfl M.f_range rfl (a_cons (e_lit pe_int fun _ => .int _) a_nil rfl)) (pg_name nd24 rfl (Or.inl rfl) (Or.inl rfl))
  (ss_cons (s_set nd24 rfl (Or.inl rfl) (e_callG T.e.tk C.c15.g T.e.rm T.e.gd rfl C.c15.m C.c15.k C.c15.b (a_cons (e_var (pv 0)) (a_cons (e_var (pv 1)) a_nil rfl) rfl) (by decide) rfl rfl) rfl rfl (Or.inl rfl))
  (ss_cons (s_set nd24 rfl (Or.inl rfl) (e_callG T.e.tk C.c20.g T.e.rm T.e.gd rfl C.c20.m C.c20.k C.c20.b (a_cons (e_var (pv 2)) a_nil rfl) (by decide) rfl rfl) rfl rfl (Or.inl rfl))
  (ss_cons (s_par2 T.e.calm nd24 rfl rfl (by decide) rfl rfl (a_cons (e_bltB (c_repr M.sm T.e.u66 T.e.gd) rfl M.f_repr (by decide +kernel) (a_cons (e_var (pv 3)) a_nil rfl) (by decide) (by decide) rfl rfl) (a_cons (e_lst a_nil) a_nil rfl) rfl) (mB_all rfl) rfl rfl)
  (ss_cons (s_for (B' := mB [6, 7]) T.e.K T.ps T.e.calm (i_rng1 rfl M.f_range rfl (a_cons (e_lit pe_int fun _ => .int _) a_nil rfl)) (pg_name nd24 rfl (Or.inl rfl) (Or.inl rfl))
  (ss_cons (s_set nd24 rfl (Or.inl rfl) (e_callG T.e.tk C.c21.g T.e.rm T.e.gd rfl C.c21.m C.c21.k C.c21.b (a_cons (e_var (pv 3)) (a_cons (e_var (pv 6)) a_nil rfl) rfl) (by decide) rfl rfl) rfl rfl (Or.inl rfl))
  (ss_cons (s_if (t_cmp (o_ne T.e.u64) rfl (e_bltB (c_repr M.sm T.e.u66 T.e.gd) rfl M.f_repr (by decide +kernel) (a_cons (e_lst (a_cons (e_callG T.e.tk C.c22.g T.e.rm T.e.gd rfl C.c22.m C.c22.k C.c22.b (a_cons (e_var (pv 3)) (a_cons (e_var (pv 6)) (a_cons (e_lit pe_bl fun _ => .bl _) a_nil rfl) rfl) rfl) (by decide) rfl rfl) (a_cons (e_callG T.e.tk C.c22.g T.e.rm T.e.gd rfl C.c22.m C.c22.k C.c22.b (a_cons (e_var (pv 3)) (a_cons (e_var (pv 6)) (a_cons (e_lit pe_bl fun _ => .bl _) a_nil rfl) rfl) rfl) (by decide) rfl rfl) a_nil rfl) rfl)) a_nil rfl) (by decide) (by decide) rfl rfl) (e_bltB (c_repr M.sm T.e.u66 T.e.gd) rfl M.f_repr (by decide +kernel) (a_cons (e_lst (a_cons (e_var (pv 7)) (a_cons (e_var (pv 7)) a_nil rfl) rfl)) a_nil rfl) (by decide) (by decide) rfl rfl)) (ss_cons (s_ret (e_lit pe_bl fun _ => .bl _))
  (ss_nil _)) (ss_nil _))
  (ss_cons (s_app (pv 5) (e_callG T.e.tk C.c22.g T.e.rm T.e.gd rfl C.c22.m C.c22.k C.c22.b (a_cons (e_var (pv 3)) (a_cons (e_var (pv 6)) (a_cons (e_lit pe_bl fun _ => .bl _) a_nil rfl) rfl) rfl) (by decide) rfl rfl) rfl rfl rfl rfl rfl rfl)
  (ss_cons (s_if (t_cmp (o_ne T.e.u64) rfl (e_bltB (c_repr M.sm T.e.u66 T.e.gd) rfl M.f_repr (by decide +kernel) (a_cons (e_callG T.e.tk C.c22.g T.e.rm T.e.gd rfl C.c22.m C.c22.k C.c22.b (a_cons (e_ix (ixr_any T.e.u1) (fun _ _ => rfl) (e_var (pv 5)) (e_neg (e_lit pe_int fun _ => .int _))) (a_cons (e_var (pv 6)) (a_cons (e_lit pe_bl fun _ => .bl _) a_nil rfl) rfl) rfl) (by decide) rfl rfl) a_nil rfl) (by decide) (by decide) rfl rfl) (e_var (pv 4))) (ss_cons (s_ret (e_lit pe_bl fun _ => .bl _))
  (ss_nil _)) (ss_nil _))
  (ss_nil _))))) (mB_sub rfl) (mB_all rfl) hg_rng (fun _ => rfl))
  (ss_cons (s_if (t_w (w_or (t_cmp (o_ne T.e.u64) rfl (e_bltB (c_repr M.sm T.e.u66 T.e.gd) rfl M.f_repr (by decide +kernel) (a_cons (e_callG T.e.tk C.c13.g T.e.rm T.e.gd rfl C.c13.m C.c13.k C.c13.b (a_cons (e_ix (ixr_any T.e.u1) (fun _ _ => rfl) (e_var (pv 5)) (e_lit pe_int fun _ => .int _)) a_nil rfl) (by decide) rfl rfl) a_nil rfl) (by decide) (by decide) rfl rfl) (e_bltB (c_repr M.sm T.e.u66 T.e.gd) rfl M.f_repr (by decide +kernel) (a_cons (e_callG T.e.tk C.c12.g T.e.rm T.e.gd rfl C.c12.m C.c12.k C.c12.b (a_cons (e_ix (ixr_any T.e.u1) (fun _ _ => rfl) (e_var (pv 5)) (e_lit pe_int fun _ => .int _)) a_nil rfl) (by decide) rfl rfl) a_nil rfl) (by decide) (by decide) rfl rfl)) (w_one (t_cmp (o_ne T.e.u64) rfl (e_bltB (c_repr M.sm T.e.u66 T.e.gd) rfl M.f_repr (by decide +kernel) (a_cons (e_callG T.e.tk C.c14.g T.e.rm T.e.gd rfl C.c14.m C.c14.k C.c14.b (a_cons (e_ix (ixr_any T.e.u1) (fun _ _ => rfl) (e_var (pv 5)) (e_lit pe_int fun _ => .int _)) a_nil rfl) (by decide) rfl rfl) a_nil rfl) (by decide) (by decide) rfl rfl) (e_bltB (c_repr M.sm T.e.u66 T.e.gd) rfl M.f_repr (by decide +kernel) (a_cons (e_callG T.e.tk C.c13.g T.e.rm T.e.gd rfl C.c13.m C.c13.k C.c13.b (a_cons (e_ix (ixr_any T.e.u1) (fun _ _ => rfl) (e_var (pv 5)) (e_lit pe_int fun _ => .int _)) a_nil rfl) (by decide) rfl rfl) a_nil rfl) (by decide) (by decide) rfl rfl))))) (ss_cons (s_ret (e_lit pe_bl fun _ => .bl _))
  (ss_nil _)) (ss_nil _))
  (ss_cons (s_for (B' := mB [6]) T.e.K T.ps T.e.calm (i_rng1 rfl M.f_range rfl (a_cons (e_lit pe_int fun _ => .int _) a_nil rfl)) (pg_name nd24 rfl (Or.inl rfl) (Or.inl rfl))
  (ss_cons (s_if (t_not (t_val (e_callG T.e.tk C.c23.g T.e.rm T.e.gd rfl C.c23.m C.c23.k C.c23.b (a_cons (e_callG T.e.tk C.c19.g T.e.rm T.e.gd rfl C.c19.m C.c19.k C.c19.b (a_cons (e_var (pv 2)) (a_cons (e_var (pv 3)) a_nil rfl) rfl) (by decide) rfl rfl) (a_cons (e_var (pv 6)) (a_cons (e_cmp (o_eq T.e.u64) rfl (e_callG T.e.tk C.c16.g T.e.rm T.e.gd rfl C.c16.m C.c16.k C.c16.b (a_cons (e_var (pv 2)) (a_cons (e_lit pe_int fun _ => .int _) a_nil rfl) rfl) (by decide) rfl rfl) (e_lit pe_int fun _ => .int _)) a_nil rfl) rfl) rfl) (by decide) rfl rfl) T.e.K (fun _ => rfl))) (ss_cons (s_ret (e_lit pe_bl fun _ => .bl _))
  (ss_nil _)) (ss_nil _))
  (ss_nil _)) (mB_sub rfl) (mB_all rfl) hg_rng (fun _ => rfl))
  (ss_cons (s_if (t_cmp (o_ne T.e.u64) rfl (e_bltB (c_repr M.sm T.e.u66 T.e.gd) rfl M.f_repr (by decide +kernel) (a_cons (e_var (pv 3)) a_nil rfl) (by decide) (by decide) rfl rfl) (e_var (pv 4))) (ss_cons (s_ret (e_lit pe_bl fun _ => .bl _))
  (ss_nil _)) (ss_nil _))
  (ss_nil _)))))))) (mB_sub rfl) (mB_all rfl) hg_rng (fun _ => rfl))
  (ss_cons (s_ret (e_lit pe_bl fun _ => .bl _))
  (ss_nil _)))
theorem bd0 {fd : Nat → FuncData} (D : Ds K fd) : Binds K (fd 0) P0 [] := D.d0.bindsN fun _ _ _ _ _ _ us hl => match us, hl with
  | [_, _, _], _ => rfl
theorem bd1 {fd : Nat → FuncData} (D : Ds K fd) : Binds K (fd 1) P1 [] := D.d1.bindsN fun _ _ _ _ _ _ us hl => match us, hl with
  | [_], _ => rfl
theorem bd2 {fd : Nat → FuncData} (D : Ds K fd) : Binds K (fd 2) P2 [] := D.d2.bindsN fun _ _ _ _ _ _ us hl => match us, hl with
  | [_, _], _ => rfl
theorem bd3 {fd : Nat → FuncData} (D : Ds K fd) : Binds K (fd 3) P3 [] := D.d3.bindsN fun _ _ _ _ _ _ us hl => match us, hl with
  | [_], _ => rfl
theorem bd4 {fd : Nat → FuncData} (D : Ds K fd) : Binds K (fd 4) P4 [] := D.d4.bindsN fun _ _ _ _ _ _ us hl => match us, hl with
  | [_], _ => rfl
theorem bd5 {fd : Nat → FuncData} (D : Ds K fd) : Binds K (fd 5) P5 [] := D.d5.bindsN fun _ _ _ _ _ _ us hl => match us, hl with
  | [_], _ => rfl
theorem bd6 {fd : Nat → FuncData} (D : Ds K fd) : Binds K (fd 6) P6 [] := D.d6.bindsN fun _ _ _ _ _ _ us hl => match us, hl with
  | [_], _ => rfl
theorem bd7 {fd : Nat → FuncData} (D : Ds K fd) : Binds K (fd 7) P7 [] := D.d7.bindsN fun _ _ _ _ _ _ us hl => match us, hl with
  | [_], _ => rfl
theorem bd8 {fd : Nat → FuncData} (D : Ds K fd) : Binds K (fd 8) P8 [] := D.d8.bindsN fun _ _ _ _ _ _ us hl => match us, hl with
  | [_, _], _ => rfl
theorem bd9 {fd : Nat → FuncData} (D : Ds K fd) : Binds K (fd 9) P9 [] := D.d9.bindsN fun _ _ _ _ _ _ us hl => match us, hl with
  | [_], _ => rfl
theorem bd10 {fd : Nat → FuncData} (D : Ds K fd) : Binds K (fd 10) P10 [] := D.d10.bindsN fun _ _ _ _ _ _ us hl => match us, hl with
  | [_], _ => rfl
theorem bd11 {fd : Nat → FuncData} (D : Ds K fd) : Binds K (fd 11) P11 [] := D.d11.bindsN fun _ _ _ _ _ _ us hl => match us, hl with
  | [_], _ => rfl
theorem bd12 {fd : Nat → FuncData} (D : Ds K fd) : Binds K (fd 12) P12 [] := D.d12.bindsN fun _ _ _ _ _ _ us hl => match us, hl with
  | [_], _ => rfl
theorem bd13 {fd : Nat → FuncData} (D : Ds K fd) : Binds K (fd 13) P13 [] := D.d13.bindsN fun _ _ _ _ _ _ us hl => match us, hl with
  | [_], _ => rfl
theorem bd14 {fd : Nat → FuncData} (D : Ds K fd) : Binds K (fd 14) P14 [] := D.d14.bindsN fun _ _ _ _ _ _ us hl => match us, hl with
  | [_], _ => rfl
theorem bd15 {fd : Nat → FuncData} (D : Ds K fd) : Binds K (fd 15) P15 [] := D.d15.bindsN fun _ _ _ _ _ _ us hl => match us, hl with
  | [_, _], _ => rfl
theorem bd16 {fd : Nat → FuncData} (D : Ds K fd) : Binds K (fd 16) P16 [] := D.d16.bindsN fun _ _ _ _ _ _ us hl => match us, hl with
  | [_, _], _ => rfl
theorem bd17 {fd : Nat → FuncData} (D : Ds K fd) : Binds K (fd 17) P17 [] := D.d17.bindsN fun _ _ _ _ _ _ us hl => match us, hl with
  | [_, _], _ => rfl
theorem bd18 {fd : Nat → FuncData} (D : Ds K fd) : Binds K (fd 18) P18 [] := D.d18.bindsN fun _ _ _ _ _ _ us hl => match us, hl with
  | [_, _], _ => rfl
theorem bd19 {fd : Nat → FuncData} (D : Ds K fd) : Binds K (fd 19) P19 [] := D.d19.bindsN fun _ _ _ _ _ _ us hl => match us, hl with
  | [_, _], _ => rfl
theorem bd20 {fd : Nat → FuncData} (D : Ds K fd) : Binds K (fd 20) P20 [] := D.d20.bindsN fun _ _ _ _ _ _ us hl => match us, hl with
  | [_], _ => rfl
theorem bd21 {fd : Nat → FuncData} (D : Ds K fd) : Binds K (fd 21) P21 [] := D.d21.bindsN fun _ _ _ _ _ _ us hl => match us, hl with
  | [_, _], _ => rfl
theorem bd22 {fd : Nat → FuncData} (D : Ds K fd) : Binds K (fd 22) P22 [] := D.d22.bindsN fun _ _ _ _ _ _ us hl => match us, hl with
  | [_, _, _], _ => rfl
theorem bd23 {fd : Nat → FuncData} (D : Ds K fd) : Binds K (fd 23) P23 [] := D.d23.bindsN fun _ _ _ _ _ _ us hl => match us, hl with
  | [_, _, _], _ => rfl
theorem bd24 {fd : Nat → FuncData} (D : Ds K fd) : Binds K (fd 24) P24 [] := D.d24.bindsN fun _ _ _ _ _ _ us hl => match us, hl with
  | [_], _ => rfl
theorem all_ok {fd : Nat → FuncData} (D : Ds K fd) (G : Gs mg K) (M : Mf K mg) : ∀ n, Cs P w K mg base fd n
  | 0 => ⟨⟨fn_no (fun _ => rfl), G.g0, D.d0.kp, bd0 D⟩, ⟨fn_no (fun _ => rfl), G.g1, D.d1.kp, bd1 D⟩, ⟨fn_no (fun _ => rfl), G.g2, D.d2.kp, bd2 D⟩, ⟨fn_no (fun _ => rfl), G.g3, D.d3.kp, bd3 D⟩, ⟨fn_no (fun _ => rfl), G.g4, D.d4.kp, bd4 D⟩, ⟨fn_no (fun _ => rfl), G.g5, D.d5.kp, bd5 D⟩, ⟨fn_no (fun _ => rfl), G.g6, D.d6.kp, bd6 D⟩, ⟨fn_no (fun _ => rfl), G.g7, D.d7.kp, bd7 D⟩, ⟨fn_no (fun _ => rfl), G.g8, D.d8.kp, bd8 D⟩, ⟨fn_no (fun _ => rfl), G.g9, D.d9.kp, bd9 D⟩, ⟨fn_no (fun _ => rfl), G.g10, D.d10.kp, bd10 D⟩, ⟨fn_no (fun _ => rfl), G.g11, D.d11.kp, bd11 D⟩, ⟨fn_no (fun _ => rfl), G.g12, D.d12.kp, bd12 D⟩, ⟨fn_no (fun _ => rfl), G.g13, D.d13.kp, bd13 D⟩, ⟨fn_no (fun _ => rfl), G.g14, D.d14.kp, bd14 D⟩, ⟨fn_no (fun _ => rfl), G.g15, D.d15.kp, bd15 D⟩, ⟨fn_no (fun _ => rfl), G.g16, D.d16.kp, bd16 D⟩, ⟨fn_no (fun _ => rfl), G.g17, D.d17.kp, bd17 D⟩, ⟨fn_no (fun _ => rfl), G.g18, D.d18.kp, bd18 D⟩, ⟨fn_no (fun _ => rfl), G.g19, D.d19.kp, bd19 D⟩, ⟨fn_no (fun _ => rfl), G.g20, D.d20.kp, bd20 D⟩, ⟨fn_no (fun _ => rfl), G.g21, D.d21.kp, bd21 D⟩, ⟨fn_no (fun _ => rfl), G.g22, D.d22.kp, bd22 D⟩, ⟨fn_no (fun _ => rfl), G.g23, D.d23.kp, bd23 D⟩, ⟨fn_no (fun _ => rfl), G.g24, D.d24.kp, bd24 D⟩⟩
  | n + 1 => ⟨⟨(fn_ok D.d0 fs0 rfl rfl (B := mB []) (mB_kp rfl) fun _ _ _ _ _ _ T => body0 (all_ok D G M n) D M T).orc rfl, G.g0, D.d0.kp, bd0 D⟩,
    ⟨(fn_ok D.d1 fs1 rfl rfl (B := mB []) (mB_kp rfl) fun _ _ _ _ _ _ T => body1 (all_ok D G M n) D M T).orc rfl, G.g1, D.d1.kp, bd1 D⟩,
    ⟨(fn_ok D.d2 fs2 rfl rfl (B := mB []) (mB_kp rfl) fun _ _ _ _ _ _ T => body2 (all_ok D G M n) D M T).orc rfl, G.g2, D.d2.kp, bd2 D⟩,
    ⟨(fn_ok D.d3 fs3 rfl rfl (B := mB []) (mB_kp rfl) fun _ _ _ _ _ _ T => body3 (all_ok D G M n) D M T).orc rfl, G.g3, D.d3.kp, bd3 D⟩,
    ⟨(fn_ok D.d4 fs4 rfl rfl (B := mB []) (mB_kp rfl) fun _ _ _ _ _ _ T => body4 (all_ok D G M n) D M T).orc rfl, G.g4, D.d4.kp, bd4 D⟩,
    ⟨(fn_ok D.d5 fs5 rfl rfl (B := mB []) (mB_kp rfl) fun _ _ _ _ _ _ T => body5 (all_ok D G M n) D M T).orc rfl, G.g5, D.d5.kp, bd5 D⟩,
    ⟨(fn_ok D.d6 fs6 rfl rfl (B := mB []) (mB_kp rfl) fun _ _ _ _ _ _ T => body6 (all_ok D G M n) D M T).orc rfl, G.g6, D.d6.kp, bd6 D⟩,
    ⟨(fn_ok D.d7 fs7 rfl rfl (B := mB []) (mB_kp rfl) fun _ _ _ _ _ _ T => body7 (all_ok D G M n) D M T).orc rfl, G.g7, D.d7.kp, bd7 D⟩,
    ⟨(fn_ok D.d8 fs8 rfl rfl (B := mB []) (mB_kp rfl) fun _ _ _ _ _ _ T => body8 (all_ok D G M n) D M T).orc rfl, G.g8, D.d8.kp, bd8 D⟩,
    ⟨(fn_ok D.d9 fs9 rfl rfl (B := mB [1, 2, 3, 4]) (mB_kp rfl) fun _ _ _ _ _ _ T => body9 (all_ok D G M n) D M T).orc rfl, G.g9, D.d9.kp, bd9 D⟩,
    ⟨(fn_ok D.d10 fs10 rfl rfl (B := mB [1, 2, 3, 4]) (mB_kp rfl) fun _ _ _ _ _ _ T => body10 (all_ok D G M n) D M T).orc rfl, G.g10, D.d10.kp, bd10 D⟩,
    ⟨(fn_ok D.d11 fs11 rfl rfl (B := mB [1, 2, 3, 4, 6]) (mB_kp rfl) fun _ _ _ _ _ _ T => body11 (all_ok D G M n) D M T).orc rfl, G.g11, D.d11.kp, bd11 D⟩,
    ⟨(fn_ok D.d12 fs12 rfl rfl (B := mB []) (mB_kp rfl) fun _ _ _ _ _ _ T => body12 (all_ok D G M n) D M T).orc rfl, G.g12, D.d12.kp, bd12 D⟩,
    ⟨(fn_ok D.d13 fs13 rfl rfl (B := mB []) (mB_kp rfl) fun _ _ _ _ _ _ T => body13 (all_ok D G M n) D M T).orc rfl, G.g13, D.d13.kp, bd13 D⟩,
    ⟨(fn_ok D.d14 fs14 rfl rfl (B := mB []) (mB_kp rfl) fun _ _ _ _ _ _ T => body14 (all_ok D G M n) D M T).orc rfl, G.g14, D.d14.kp, bd14 D⟩,
    ⟨(fn_ok D.d15 fs15 rfl rfl (B := mB [2]) (mB_kp rfl) fun _ _ _ _ _ _ T => body15 (all_ok D G M n) D M T).orc rfl, G.g15, D.d15.kp, bd15 D⟩,
    ⟨(fn_ok D.d16 fs16 rfl rfl (B := mB [2, 3, 4]) (mB_kp rfl) fun _ _ _ _ _ _ T => body16 (all_ok D G M n) D M T).orc rfl, G.g16, D.d16.kp, bd16 D⟩,
    ⟨(fn_ok D.d17 fs17 rfl rfl (B := mB []) (mB_kp rfl) fun _ _ _ _ _ _ T => body17 (all_ok D G M n) D M T).orc rfl, G.g17, D.d17.kp, bd17 D⟩,
    ⟨(fn_ok D.d18 fs18 rfl rfl (B := mB [2, 3, 4]) (mB_kp rfl) fun _ _ _ _ _ _ T => body18 (all_ok D G M n) D M T).orc rfl, G.g18, D.d18.kp, bd18 D⟩,
    ⟨(fn_ok D.d19 fs19 rfl rfl (B := mB [2, 3, 4, 5, 6, 7, 8, 9, 10, 11, 12]) (mB_kp rfl) fun _ _ _ _ _ _ T => body19 (all_ok D G M n) D M T).orc rfl, G.g19, D.d19.kp, bd19 D⟩,
    ⟨(fn_ok D.d20 fs20 rfl rfl (B := mB [1, 2, 3, 5]) (mB_kp rfl) fun _ _ _ _ _ _ T => body20 (all_ok D G M n) D M T).orc rfl, G.g20, D.d20.kp, bd20 D⟩,
    ⟨(fn_ok D.d21 fs21 rfl rfl (B := mB [2, 3, 4, 5, 7]) (mB_kp rfl) fun _ _ _ _ _ _ T => body21 (all_ok D G M n) D M T).orc rfl, G.g21, D.d21.kp, bd21 D⟩,
    ⟨(fn_ok D.d22 fs22 rfl rfl (B := mB []) (mB_kp rfl) fun _ _ _ _ _ _ T => body22 (all_ok D G M n) D M T).orc rfl, G.g22, D.d22.kp, bd22 D⟩,
    ⟨(fn_ok D.d23 fs23 rfl rfl (B := mB [3, 4]) (mB_kp rfl) fun _ _ _ _ _ _ T => body23 (all_ok D G M n) D M T).orc rfl, G.g23, D.d23.kp, bd23 D⟩,
    ⟨(fn_ok D.d24 fs24 rfl rfl (B := mB [1, 2, 3, 4, 5, 6, 7]) (mB_kp rfl) fun _ _ _ _ _ _ T => body24 (all_ok D G M n) D M T).orc rfl, G.g24, D.d24.kp, bd24 D⟩⟩
end
/-! ### the head -/
def e0 : He.DefD := ⟨("is_row", none), "is_row", "is_row", defArgs (top 4), defBody (top 4), defScope (top 4), [], []⟩
def e1 : He.DefD := ⟨("is_name", none), "is_name", "is_name", defArgs (top 5), defBody (top 5), defScope (top 5), [], []⟩
def e2 : He.DefD := ⟨("is_word_of", none), "is_word_of", "is_word_of", defArgs (top 13), defBody (top 13), defScope (top 13), [], []⟩
def e3 : He.DefD := ⟨("is_hand", none), "is_hand", "is_hand", defArgs (top 14), defBody (top 14), defScope (top 14), [], []⟩
def e4 : He.DefD := ⟨("is_want", none), "is_want", "is_want", defArgs (top 17), defBody (top 17), defScope (top 17), [], []⟩
def e5 : He.DefD := ⟨("is_rule", none), "is_rule", "is_rule", defArgs (top 18), defBody (top 18), defScope (top 18), [], []⟩
def e6 : He.DefD := ⟨("is_book", none), "is_book", "is_book", defArgs (top 19), defBody (top 19), defScope (top 19), [], []⟩
def e7 : He.DefD := ⟨("need_book", none), "need_book", "need_book", defArgs (top 21), defBody (top 21), defScope (top 21), [], []⟩
def e8 : He.DefD := ⟨("other_of", none), "other_of", "other_of", defArgs (top 23), defBody (top 23), defScope (top 23), [], []⟩
def e9 : He.DefD := ⟨("mirrored_of", none), "mirrored_of", "mirrored_of", defArgs (top 24), defBody (top 24), defScope (top 24), [], []⟩
def e10 : He.DefD := ⟨("turned_over_of", none), "turned_over_of", "turned_over_of", defArgs (top 25), defBody (top 25), defScope (top 25), [], []⟩
def e11 : He.DefD := ⟨("side_of", none), "side_of", "side_of", defArgs (top 26), defBody (top 26), defScope (top 26), [], []⟩
def e12 : He.DefD := ⟨("mirrored_book", none), "mirrored_book", "mirrored_book", defArgs (top 28), defBody (top 28), defScope (top 28), [], []⟩
def e13 : He.DefD := ⟨("turned_over_book", none), "turned_over_book", "turned_over_book", defArgs (top 29), defBody (top 29), defScope (top 29), [], []⟩
def e14 : He.DefD := ⟨("side_book", none), "side_book", "side_book", defArgs (top 30), defBody (top 30), defScope (top 30), [], []⟩
def e15 : He.DefD := ⟨("_law_feed", none), "_law_feed", "_law_feed", defArgs (top 32), defBody (top 32), defScope (top 32), [], []⟩
def e16 : He.DefD := ⟨("_law_draw", none), "_law_draw", "_law_draw", defArgs (top 33), defBody (top 33), defScope (top 33), [], []⟩
def e17 : He.DefD := ⟨("_law_one", none), "_law_one", "_law_one", defArgs (top 34), defBody (top 34), defScope (top 34), [], []⟩
def e18 : He.DefD := ⟨("_law_mixed", none), "_law_mixed", "_law_mixed", defArgs (top 35), defBody (top 35), defScope (top 35), [], []⟩
def e19 : He.DefD := ⟨("_law_no_book", none), "_law_no_book", "_law_no_book", defArgs (top 36), defBody (top 36), defScope (top 36), [], []⟩
def e20 : He.DefD := ⟨("_law_drawn_book", none), "_law_drawn_book", "_law_drawn_book", defArgs (top 37), defBody (top 37), defScope (top 37), [], []⟩
def e21 : He.DefD := ⟨("_law_turned", none), "_law_turned", "_law_turned", defArgs (top 38), defBody (top 38), defScope (top 38), [], []⟩
def e22 : He.DefD := ⟨("_law_told", none), "_law_told", "_law_told", defArgs (top 39), defBody (top 39), defScope (top 39), [], []⟩
def e23 : He.DefD := ⟨("_law_is_refused", none), "_law_is_refused", "_law_is_refused", defArgs (top 40), defBody (top 40), defScope (top 40), [], []⟩
def e24 : He.DefD := ⟨("law", none), "law", "law", defArgs (top 41), defBody (top 41), defScope (top 41), [], []⟩
def dl : List He.DefD := [e0, e1, e2, e3, e4, e5, e6, e7, e8, e9, e10, e11, e12, e13, e14, e15, e16, e17, e18, e19, e20, e21, e22, e23, e24]
def fk : List Fk := [.he (.glo "is_row"), .he (.glo "is_name"), .he (.glo "is_word_of"), .he (.glo "is_hand"), .he (.glo "is_want"), .he (.glo "is_rule"), .he (.glo "is_book"), .he (.glo "need_book"), .he (.glo "other_of"), .he (.glo "mirrored_of"), .he (.glo "turned_over_of"), .he (.glo "side_of"), .he (.glo "mirrored_book"), .he (.glo "turned_over_book"), .he (.glo "side_book"), .he (.glo "_law_feed"), .he (.glo "_law_draw"), .he (.glo "_law_one"), .he (.glo "_law_mixed"), .he (.glo "_law_no_book"), .he (.glo "_law_drawn_book"), .he (.glo "_law_turned"), .he (.glo "_law_told"), .he (.glo "_law_is_refused"), .he (.glo "law"), .he (.free "all"), .he (.free "int"), .he (.free "isinstance"), .he (.free "len"), .he (.free "list"), .he (.free "max"), .he (.free "range"), .he (.free "repr"), .he (.free "str"), .he (.free "sum"), .he (.free "tuple"), .he (.glo "BadBook"), .he (.glo "SignError"), .he (.int "MOST_RULES" 30), .he (.int "MOST_SIGNS" 8), .he (.str "DIGITS" "0123456789"), .he (.str "LETTERS" "abcdefghijklmnopqrstuvwxyz"), .he (.exc "BadBook"), .tup "HEIGHTS" (.tuple [(.str "upper"), (.str "lower")]), .tup "SIDES" (.tuple [(.str "left"), (.str "right")]), .tup "WORDS" (.tuple [(.str "across"), (.str "down")]), .tupG "HEIGHTS" [(.str "upper"), (.str "lower")], .tupG "SIDES" [(.str "left"), (.str "right")], .tupG "WORDS" [(.str "across"), (.str "down")], .exx cn tab, .sysm]
abbrev hk : PySem.W.Hook := hookK 4 fk dl
def ob (s : PySem.W.SharedT) : He.AlD := obsKG 4 fk dl (HandSHeadRun.getT s)
theorem ob_eq (s : PySem.W.SharedT) : ob s = hk.obs s.abs := obsKG_eq (HandSHeadRun.getT_eq s)
section
variable {K : PySem.W.Frag} {mg : Str → Option Value} {h : Heap}
theorem mf_of (X : K.In h) (G : h.Ns mainGlobals mg) (c : SaysK fk dl K) : Mf K mg :=
  ⟨He.free_ok X G (c.fact 25 rfl), He.free_ok X G (c.fact 26 rfl), He.free_ok X G (c.fact 27 rfl), He.free_ok X G (c.fact 28 rfl), He.free_ok X G (c.fact 29 rfl), He.free_ok X G (c.fact 30 rfl), He.free_ok X G (c.fact 31 rfl), He.free_ok X G (c.fact 32 rfl), He.free_ok X G (c.fact 33 rfl), He.free_ok X G (c.fact 34 rfl), He.free_ok X G (c.fact 35 rfl), He.glo_ok X G (c.fact 36 rfl), He.glo_ok X G (c.fact 37 rfl), (by obtain ⟨t, e⟩ := He.int_ok X G (c.fact 38 rfl); exact ⟨_, e, t, rfl⟩), (by obtain ⟨t, e⟩ := He.int_ok X G (c.fact 39 rfl); exact ⟨_, e, t, rfl⟩), (by obtain ⟨t, e⟩ := He.str_ok X G (c.fact 40 rfl); exact ⟨_, e, t, rfl⟩), (by obtain ⟨t, e⟩ := He.str_ok X G (c.fact 41 rfl); exact ⟨_, e, t, rfl⟩), (c.fact 42 rfl), tup_ok X G (c.fact 43 rfl), tup_ok X G (c.fact 44 rfl), tup_ok X G (c.fact 45 rfl), tupG_ok X G (c.fact 46 rfl), tupG_ok X G (c.fact 47 rfl), tupG_ok X G (c.fact 48 rfl), exx_ok (by decide) (c.fact 49 rfl), sysm_ok (c.fact 50 rfl)⟩
theorem gs_of (X : K.In h) (G : h.Ns mainGlobals mg) (c : SaysK fk dl K) : Gs mg K :=
  ⟨He.glo_ok X G (c.fact 0 rfl), He.glo_ok X G (c.fact 1 rfl), He.glo_ok X G (c.fact 2 rfl), He.glo_ok X G (c.fact 3 rfl), He.glo_ok X G (c.fact 4 rfl), He.glo_ok X G (c.fact 5 rfl), He.glo_ok X G (c.fact 6 rfl), He.glo_ok X G (c.fact 7 rfl), He.glo_ok X G (c.fact 8 rfl), He.glo_ok X G (c.fact 9 rfl), He.glo_ok X G (c.fact 10 rfl), He.glo_ok X G (c.fact 11 rfl), He.glo_ok X G (c.fact 12 rfl), He.glo_ok X G (c.fact 13 rfl), He.glo_ok X G (c.fact 14 rfl), He.glo_ok X G (c.fact 15 rfl), He.glo_ok X G (c.fact 16 rfl), He.glo_ok X G (c.fact 17 rfl), He.glo_ok X G (c.fact 18 rfl), He.glo_ok X G (c.fact 19 rfl), He.glo_ok X G (c.fact 20 rfl), He.glo_ok X G (c.fact 21 rfl), He.glo_ok X G (c.fact 22 rfl), He.glo_ok X G (c.fact 23 rfl), He.glo_ok X G (c.fact 24 rfl)⟩
theorem ds_of (c : SaysK fk dl K) : ∃ fd, Ds K fd := by
  obtain ⟨f0, h0⟩ := c.def_ 0 (d := e0) rfl
  obtain ⟨f1, h1⟩ := c.def_ 1 (d := e1) rfl
  obtain ⟨f2, h2⟩ := c.def_ 2 (d := e2) rfl
  obtain ⟨f3, h3⟩ := c.def_ 3 (d := e3) rfl
  obtain ⟨f4, h4⟩ := c.def_ 4 (d := e4) rfl
  obtain ⟨f5, h5⟩ := c.def_ 5 (d := e5) rfl
  obtain ⟨f6, h6⟩ := c.def_ 6 (d := e6) rfl
  obtain ⟨f7, h7⟩ := c.def_ 7 (d := e7) rfl
  obtain ⟨f8, h8⟩ := c.def_ 8 (d := e8) rfl
  obtain ⟨f9, h9⟩ := c.def_ 9 (d := e9) rfl
  obtain ⟨f10, h10⟩ := c.def_ 10 (d := e10) rfl
  obtain ⟨f11, h11⟩ := c.def_ 11 (d := e11) rfl
  obtain ⟨f12, h12⟩ := c.def_ 12 (d := e12) rfl
  obtain ⟨f13, h13⟩ := c.def_ 13 (d := e13) rfl
  obtain ⟨f14, h14⟩ := c.def_ 14 (d := e14) rfl
  obtain ⟨f15, h15⟩ := c.def_ 15 (d := e15) rfl
  obtain ⟨f16, h16⟩ := c.def_ 16 (d := e16) rfl
  obtain ⟨f17, h17⟩ := c.def_ 17 (d := e17) rfl
  obtain ⟨f18, h18⟩ := c.def_ 18 (d := e18) rfl
  obtain ⟨f19, h19⟩ := c.def_ 19 (d := e19) rfl
  obtain ⟨f20, h20⟩ := c.def_ 20 (d := e20) rfl
  obtain ⟨f21, h21⟩ := c.def_ 21 (d := e21) rfl
  obtain ⟨f22, h22⟩ := c.def_ 22 (d := e22) rfl
  obtain ⟨f23, h23⟩ := c.def_ 23 (d := e23) rfl
  obtain ⟨f24, h24⟩ := c.def_ 24 (d := e24) rfl
  exact ⟨fun i => [f0, f1, f2, f3, f4, f5, f6, f7, f8, f9, f10, f11, f12, f13, f14, f15, f16, f17, f18, f19, f20, f21, f22, f23, f24].getD i f0, ⟨h0, h1, h2, h3, h4, h5, h6, h7, h8, h9, h10, h11, h12, h13, h14, h15, h16, h17, h18, h19, h20, h21, h22, h23, h24⟩⟩
end
def ilaw : Nat := 24
end K50
namespace K50
open PySem L2 Mini
def O (n : Nat) : Orc := orc pg fs n
theorem oO {n i : Nat} {dd : FnI} {vs : List Sv} (h : fs[i]? = some dd) : O (n + 1) i vs = runF pg (O n) dd vs := orcS h
theorem f_row (n : Nat) : RowOk (O (n + 1)) 0 := fun d lo hi => by
  rw [oO (dd := D_is_row) rfl]
  exact is_row_ok d lo hi
theorem f_name (n : Nat) : B1 (O (n + 1)) 1 (fun d => okD d = true) nameD := fun d hd => by
  rw [oO (dd := D_is_name) rfl]
  exact is_name_ok d hd
theorem f_word (n : Nat) : WordOk (O (n + 1)) 2 := fun ws d => by
  rw [oO (dd := D_is_word_of) rfl]
  exact is_word_ok d
theorem f_hand (n : Nat) : B1 (O (n + 2)) 3 (fun _ => True) handB := fun d _ => by
  rw [oO (dd := D_is_hand 0 2) rfl]
  exact is_hand_ok (f_row n) (f_word n) d
theorem f_want (n : Nat) : B1 (O (n + 2)) 4 (fun d => okD d = true) wantB := fun d hd => by
  rw [oO (dd := D_is_want 1) rfl]
  exact is_want_ok (f_name n) d hd
theorem f_rule (n : Nat) : B1 (O (n + 3)) 5 (fun d => okD d = true) ruleB := fun d hd => by
  rw [oO (dd := D_is_rule 0 2 4) rfl]
  exact is_rule_ok (f_row _) (f_word _) (f_want n) d hd
theorem f_book (n : Nat) : B1 (O (n + 4)) 6 (fun d => okD d = true) bookB := fun d hd => by
  rw [oO (dd := D_is_book 0 3 2 5) rfl]
  exact is_book_ok (f_row _) (f_hand _) (f_word _) (f_rule n) d hd
theorem f_need (n : Nat) : NeedOk (O (n + 5)) 7 1 bookB := fun d hd => by
  rw [oO (dd := D_need_book 6 1) rfl]
  exact need_book_ok (f_book n) d hd
theorem f_other (n : Nat) : OtherOk (O (n + 1)) 8 := fun a b x hab hx => by
  rw [oO (dd := D_other_of) rfl]
  exact other_of_ok a b x hab hx
theorem f_mir (n : Nat) : BkF (O (n + 2)) 9 mirB := fun b h => by
  rw [oO (dd := D_mirrored_of 8) rfl]
  exact mirrored_of_ok (f_other n) b h
theorem f_ovr (n : Nat) : BkF (O (n + 2)) 10 ovrB := fun b h => by
  rw [oO (dd := D_turned_over_of 8) rfl]
  exact turned_over_of_ok (f_other n) b h
theorem f_sid (n : Nat) : BkF (O (n + 2)) 11 sidB := fun b h => by
  rw [oO (dd := D_side_of 8) rfl]
  exact side_of_ok (f_other n) b h
theorem f_mirror (n : Nat) : BkF (O (n + 6)) 12 mirB := fun b h => by
  rw [oO (dd := needRet 7 9) rfl]
  exact need_ret_ok (f_need n) (f_mir _) b h
theorem f_over (n : Nat) : BkF (O (n + 6)) 13 ovrB := fun b h => by
  rw [oO (dd := needRet 7 10) rfl]
  exact need_ret_ok (f_need n) (f_ovr _) b h
theorem f_side (n : Nat) : BkF (O (n + 6)) 14 sidB := fun b h => by
  rw [oO (dd := needRet 7 11) rfl]
  exact need_ret_ok (f_need n) (f_sid _) b h
def NoF (Φ : Orc) (i : Nat) : Prop := ∀ d, okD d = true → bookB d = false → ∃ ps, Φ i [.dat d] = some (.exc 1 [] ps)
theorem n_mirror (n : Nat) : NoF (O (n + 6)) 12 := fun d h h2 => by
  rw [oO (dd := needRet 7 9) rfl]
  exact need_ret_no (f_need n) d h h2
theorem n_over (n : Nat) : NoF (O (n + 6)) 13 := fun d h h2 => by
  rw [oO (dd := needRet 7 10) rfl]
  exact need_ret_no (f_need n) d h h2
theorem n_side (n : Nat) : NoF (O (n + 6)) 14 := fun d h h2 => by
  rw [oO (dd := needRet 7 11) rfl]
  exact need_ret_no (f_need n) d h h2
theorem f_draw (n : Nat) : DrawOk (O (n + 1)) 16 := fun N c m hc hN h0 hl => by
  rw [oO (dd := dDraw) rfl]
  exact draw_ok hc hN h0 hl
theorem f_one (n : Nat) : OneOk (O (n + 2)) 17 := ⟨fun N c xs hc hN h0 hl => by
  rw [oO (dd := dOne 16) rfl]
  exact one_okL rfl (fun m h1 h2 => f_draw n N c m hc hN h1 h2) h0 hl, fun N c xs x hx hc hN h0 hl => by
  rw [oO (dd := dOne 16) rfl]
  exact one_ok hx rfl (fun m h1 h2 => f_draw n N c m hc hN h1 h2) h0 hl⟩
/-! ### the law's own -/
def turnB : Nat → Bk → Bk
  | 0, b => mirB b
  | 1, b => ovrB b
  | _, b => sidB b
theorem turn_ok {b : Bk} (h : BkOk b) : ∀ w, BkOk (turnB w b)
  | 0 => mirB_ok h
  | 1 => ovrB_ok h
  | _ + 2 => sidB_ok h
theorem turn_turn {b : Bk} (h : BkOk b) : ∀ w, turnB w (turnB w b) = b
  | 0 => mir_mir h
  | 1 => ovr_ovr h
  | _ + 2 => sid_sid h
section
variable {p : Pg} {Φ : Orc} {ρ ρ1 : Mini.Env}
theorem k_bk {i : Nat} {f : Bk → Bk} {b : Bk} {e : IE} (hf : BkF Φ i f) (h : BkOk b) (he : W1 p Φ e ρ (bkD b) ρ1) : W1 p Φ (.call i [e]) ρ (bkD (f b)) ρ1 :=
  let ⟨_, e2⟩ := hf b h
  g_call (wa_cons he wa_nil) e2
theorem k_bkk {i : Nat} {f : Bk → Bk} {b : Bk} {e : IE} (hf : BkF Φ i f) (h : BkOk b) (he : W1 p Φ e ρ (bkD b) ρ1) : W1 p Φ (.callk i [e] [0]) ρ (bkD (f b)) ρ1 :=
  let ⟨_, e2⟩ := hf b h
  g_callk (wa_cons he wa_nil) rfl e2
theorem k_both {i : Nat} {f : Bk → Bk} {b : Bk} {e q : IE} {t : Bool} (hf : BkF Φ i f) (h : BkOk b) (hq : V1 p Φ q ρ (.bool t)) (he : V1 p Φ e ρ (bkD b)) : V1 p Φ (.ife q (.callk i [e] [0]) (.call i [e])) ρ (bkD (f b)) := by
  refine (g_ife hq (show truD (.bool t) = some t from rfl)).trans ?_
  cases t with
  | true => exact k_bkk hf h he
  | false => exact k_bk hf h he
theorem k_bothX {i : Nat} {d : PyData} {e q : IE} {t : Bool} (hf : NoF Φ i) (h : okD d = true) (h2 : bookB d = false) (hq : V1 p Φ q ρ (.bool t)) (he : V1 p Φ e ρ d) : evE p Φ (.ife q (.callk i [e] [0]) (.call i [e])) ρ = .exc 1 [] ρ := by
  obtain ⟨ps, e2⟩ := hf d h h2
  refine (g_ife hq (show truD (.bool t) = some t from rfl)).trans ?_
  cases t with
  | true => exact g_callkX (wa_cons he wa_nil) rfl e2
  | false => exact g_callX (wa_cons he wa_nil) e2
theorem told_ok {b : Bk} {w : Nat} {q : Bool} (hm : BkF Φ 12 mirB) (ho : BkF Φ 13 ovrB) (hs : BkF Φ 14 sidB) (h : BkOk b) (hw : w < 3) : ∃ ps, runF p Φ d22 [.dat (bkD b), .dat (.int (w : Int)), .dat (.bool q)] = some (.ret (.dat (bkD (turnB w b))) ps) := by
  match w, hw with
  | 0, _ =>
    refine rr rfl (h_ifT (g_cmp (x_var rfl) x_lit rfl) ?_)
    exact h_ret (k_both hm h (x_var rfl) (x_var rfl)) ⟨_, rfl⟩
  | 1, _ =>
    refine rr rfl (h_ifF (g_cmp (x_var rfl) x_lit rfl) (h_ifT (g_cmp (x_var rfl) x_lit rfl) ?_))
    exact h_ret (k_both ho h (x_var rfl) (x_var rfl)) ⟨_, rfl⟩
  | 2, _ =>
    refine rr rfl (h_ifF (g_cmp (x_var rfl) x_lit rfl) (h_ifF (g_cmp (x_var rfl) x_lit rfl) ?_))
    exact h_ret (k_both hs h (x_var rfl) (x_var rfl)) ⟨_, rfl⟩
theorem told_no {d : PyData} {w : Nat} {q : Bool} (hm : NoF Φ 12) (ho : NoF Φ 13) (hs : NoF Φ 14) (h : okD d = true) (h2 : bookB d = false) (hw : w < 3) : ∃ ps, runF p Φ d22 [.dat d, .dat (.int (w : Int)), .dat (.bool q)] = some (.exc 1 [] ps) := by
  have key : ∃ fr, runF p Φ d22 [.dat d, .dat (.int (w : Int)), .dat (.bool q)] = some fr ∧ ∃ ps, fr = .exc 1 [] ps := by
    match w, hw with
    | 0, _ =>
      refine r_of rfl (h_ifT (g_cmp (x_var rfl) x_lit rfl) ?_)
      exact h_retX (k_bothX hm h h2 (x_var rfl) (x_var rfl)) ⟨_, rfl, _, rfl⟩
    | 1, _ =>
      refine r_of rfl (h_ifF (g_cmp (x_var rfl) x_lit rfl) (h_ifT (g_cmp (x_var rfl) x_lit rfl) ?_))
      exact h_retX (k_bothX ho h h2 (x_var rfl) (x_var rfl)) ⟨_, rfl, _, rfl⟩
    | 2, _ =>
      refine r_of rfl (h_ifF (g_cmp (x_var rfl) x_lit rfl) (h_ifF (g_cmp (x_var rfl) x_lit rfl) ?_))
      exact h_retX (k_bothX hs h h2 (x_var rfl) (x_var rfl)) ⟨_, rfl, _, rfl⟩
  obtain ⟨fr, h3, ps2, rfl⟩ := key
  exact ⟨ps2, h3⟩
end
theorem f_told (n : Nat) {b : Bk} {w : Nat} {q : Bool} (h : BkOk b) (hw : w < 3) : ∃ ps, O (n + 7) 22 [.dat (bkD b), .dat (.int (w : Int)), .dat (.bool q)] = some (.ret (.dat (bkD (turnB w b))) ps) := by
  rw [oO (dd := d22) rfl]
  exact told_ok (f_mirror n) (f_over n) (f_side n) h hw
theorem n_told (n : Nat) {d : PyData} {w : Nat} {q : Bool} (h : okD d = true) (h2 : bookB d = false) (hw : w < 3) : ∃ ps, O (n + 7) 22 [.dat d, .dat (.int (w : Int)), .dat (.bool q)] = some (.exc 1 [] ps) := by
  rw [oO (dd := d22) rfl]
  exact told_no (n_mirror n) (n_over n) (n_side n) h h2 hw
theorem f_refused (n : Nat) {d : PyData} {w : Nat} {q : Bool} (h : okD d = true) (h2 : bookB d = false) (hw : w < 3) : ∃ ps, O (n + 8) 23 [.dat d, .dat (.int (w : Int)), .dat (.bool q)] = some (.ret (.dat (.bool true)) ps) := by
  rw [oO (dd := d23) rfl]
  obtain ⟨ps, e⟩ := n_told n (q := q) h h2 hw
  refine rr rfl (h_asg x_lit ?_)
  exact h_tryK (cl := 1) (fs := []) (ρ1 := [some (.dat d), I w, some (.dat (.bool q)), some (.dat .none), none]) (h_exprX (g_callX (wa_cons (x_var rfl) (wa_cons (x_var rfl) (wa_cons (x_var rfl) wa_nil))) e) rfl) rfl rfl rfl ⟨_, rfl⟩
/-- the law's own turning -/
theorem turned_ok {p : Pg} {Φ : Orc} {b : Bk} {w : Nat} (h : BkOk b) (hw : w < 3) : ∃ ps, runF p Φ d21 [.dat (bkD b), .dat (.int (w : Int))] = some (.ret (.dat (bkD (turnB w b))) ps) := by
  have hn : b.rs.length ≤ 1000000 := by have := h.n; omega
  refine rr rfl ?_
  refine h_asgT (ds := [.tuple [.str b.s, .str b.v], .tuple b.rs, .str b.w]) (x_var rfl) rfl ?_
  refine h_asgV (v := .own (.dic false [(.str "left", .str "right"), (.str "right", .str "left"), (.str "upper", .str "lower"), (.str "lower", .str "upper"), (.str "across", .str "down"), (.str "down", .str "across")])) rfl ?_
  have hs : ∀ {ρ : Mini.Env} {e : IE}, getS ρ 5 = some (.own (.dic false [(.str "left", .str "right"), (.str "right", .str "left"), (.str "upper", .str "lower"), (.str "lower", .str "upper"), (.str "across", .str "down"), (.str "down", .str "across")])) → V1 p Φ e ρ (.str b.s) → V1 p Φ (.ix (.var 5) e) ρ (.str (oS b.s)) := fun {ρ e} g he => by
    rcases h.s with q | q <;> rw [q] at he ⊢ <;> exact x_ixT g he rfl rfl
  have hv : ∀ {ρ : Mini.Env} {e : IE}, getS ρ 5 = some (.own (.dic false [(.str "left", .str "right"), (.str "right", .str "left"), (.str "upper", .str "lower"), (.str "lower", .str "upper"), (.str "across", .str "down"), (.str "down", .str "across")])) → V1 p Φ e ρ (.str b.v) → V1 p Φ (.ix (.var 5) e) ρ (.str (oH b.v)) := fun {ρ e} g he => by
    rcases h.v with q | q <;> rw [q] at he ⊢ <;> exact x_ixT g he rfl rfl
  have hww : ∀ {ρ : Mini.Env} {e : IE} {w : Str}, (w = "across" ∨ w = "down") → getS ρ 5 = some (.own (.dic false [(.str "left", .str "right"), (.str "right", .str "left"), (.str "upper", .str "lower"), (.str "lower", .str "upper"), (.str "across", .str "down"), (.str "down", .str "across")])) → V1 p Φ e ρ (.str w) → V1 p Φ (.ix (.var 5) e) ρ (.str (oW w)) := fun {ρ e w} hw g he => by
    rcases hw with q | q <;> rw [q] at he ⊢ <;> exact x_ixT g he rfl rfl
  match w, hw with
  | 0, _ =>
    refine h_ifT (g_cmp (x_var rfl) x_lit rfl) ?_
    refine h_ret (g_tup (wa_cons (g_tup (wa_cons (hs rfl (ix_tup (v := 0) (x_var rfl) x_lit rfl rfl)) (wa_cons (ix_tup (v := 1) (x_var rfl) x_lit rfl rfl) wa_nil)) rfl) (wa_cons (g_blt1 (g_lc0 (xs := b.rs) (g := mirR) rfl (i_tup (x_var rfl)) rfl hn fun r hr => ?_) rfl rfl) (wa_cons (x_var rfl) wa_nil))) rfl) ⟨_, rfl⟩
    obtain ⟨a1, a2, a3, a4, w, rfl, _, _⟩ := h.r r hr
    exact g_tup (wa_cons (ix_tup (v := 1) (x_var rfl) x_lit rfl rfl) (wa_cons (ix_tup (v := 0) (x_var rfl) x_lit rfl rfl) (wa_cons (ix_tup (v := 3) (x_var rfl) x_lit rfl rfl) (wa_cons (ix_tup (v := 2) (x_var rfl) x_lit rfl rfl) (wa_cons (ix_tup (v := 4) (x_var rfl) x_lit rfl rfl) wa_nil))))) rfl
  | 1, _ =>
    refine h_ifF (g_cmp (x_var rfl) x_lit rfl) (h_ifT (g_cmp (x_var rfl) x_lit rfl) ?_)
    refine h_ret (g_tup (wa_cons (g_tup (wa_cons (ix_tup (v := 0) (x_var rfl) x_lit rfl rfl) (wa_cons (hv rfl (ix_tup (v := 1) (x_var rfl) x_lit rfl rfl)) wa_nil)) rfl) (wa_cons (g_blt1 (g_lc0 (xs := b.rs) (g := ovrR) rfl (i_tup (x_var rfl)) rfl hn fun r hr => ?_) rfl rfl) (wa_cons (x_var rfl) wa_nil))) rfl) ⟨_, rfl⟩
    obtain ⟨a1, a2, a3, a4, w, rfl, _, _⟩ := h.r r hr
    exact g_tup (wa_cons (ix_tup (v := 2) (x_var rfl) x_lit rfl rfl) (wa_cons (ix_tup (v := 3) (x_var rfl) x_lit rfl rfl) (wa_cons (ix_tup (v := 0) (x_var rfl) x_lit rfl rfl) (wa_cons (ix_tup (v := 1) (x_var rfl) x_lit rfl rfl) (wa_cons (ix_tup (v := 4) (x_var rfl) x_lit rfl rfl) wa_nil))))) rfl
  | 2, _ =>
    refine h_ifF (g_cmp (x_var rfl) x_lit rfl) (h_ifF (g_cmp (x_var rfl) x_lit rfl) ?_)
    have e1 : ∀ {ρ : Mini.Env}, getS ρ 2 = some (.dat (.tuple [.str b.s, .str b.v])) → V1 p Φ (.ife (.cmp .eq (.ix (.var 2) (.lit (.int 1))) (.lit (.str "upper"))) (.lit (.str "left")) (.lit (.str "right"))) ρ (.str (toS b.v)) := fun {ρ} g => by
      refine (g_ife (c_eqS (ix_tup (v := 1) (x_var g) x_lit rfl rfl) x_lit) rfl).trans ?_
      rcases h.v with q | q <;> rw [q] <;> rfl
    have e2 : ∀ {ρ : Mini.Env}, getS ρ 2 = some (.dat (.tuple [.str b.s, .str b.v])) → V1 p Φ (.ife (.cmp .eq (.ix (.var 2) (.lit (.int 0))) (.lit (.str "left"))) (.lit (.str "upper")) (.lit (.str "lower"))) ρ (.str (toH b.s)) := fun {ρ} g => by
      refine (g_ife (c_eqS (ix_tup (v := 0) (x_var g) x_lit rfl rfl) x_lit) rfl).trans ?_
      rcases h.s with q | q <;> rw [q] <;> rfl
    refine h_asg (g_tup (wa_cons (e1 rfl) (wa_cons (e2 rfl) wa_nil)) rfl) ?_
    refine h_ret (g_tup (wa_cons (x_var rfl) (wa_cons (g_blt1 (g_lc0 (xs := b.rs) (g := sidR) rfl (i_tup (x_var rfl)) rfl hn fun r hr => ?_) rfl rfl) (wa_cons (hww h.w rfl (x_var rfl)) wa_nil))) rfl) ⟨_, rfl⟩
    obtain ⟨a1, a2, a3, a4, w, rfl, hw, _⟩ := h.r r hr
    exact g_tup (wa_cons (ix_tup (v := 0) (x_var rfl) x_lit rfl rfl) (wa_cons (ix_tup (v := 2) (x_var rfl) x_lit rfl rfl) (wa_cons (ix_tup (v := 1) (x_var rfl) x_lit rfl rfl) (wa_cons (ix_tup (v := 3) (x_var rfl) x_lit rfl rfl) (wa_cons (hww hw rfl (ix_tup (v := 4) (x_var rfl) x_lit rfl rfl)) wa_nil))))) rfl
theorem f_turned (n : Nat) {b : Bk} {w : Nat} (h : BkOk b) (hw : w < 3) : ∃ ps, O (n + 1) 21 [.dat (bkD b), .dat (.int (w : Int))] = some (.ret (.dat (bkD (turnB w b))) ps) := by
  rw [oO (dd := d21) rfl]
  exact turned_ok h hw
end K50
namespace K50
open PySem L2 Mini
def WantOk (a : PyData) : Prop := wantB a = true ∧ okD a = true ∧ nd a = 1 ∧ a.depth = 0
def RuleOk (r : PyData) : Prop := ∃ a1 a2 a3 a4 w, r = .tuple [a1, a2, a3, a4, .str w] ∧ (w = "across" ∨ w = "down") ∧ ∀ a ∈ [a1, a2, a3, a4], WantOk a
theorem want_of {a : PyData} (h : a ∈ ([.str "k", .str "k2", .str "a", .str "long1234", .none, .none] : List PyData)) : WantOk a := by
  simp only [List.mem_cons, List.not_mem_nil, or_false] at h
  rcases h with rfl | rfl | rfl | rfl | rfl | rfl
  · exact ⟨by decide +kernel, by decide +kernel, rfl, rfl⟩
  · exact ⟨by decide +kernel, by decide +kernel, rfl, rfl⟩
  · exact ⟨by decide +kernel, by decide +kernel, rfl, rfl⟩
  · exact ⟨by decide +kernel, by decide +kernel, rfl, rfl⟩
  · exact ⟨rfl, rfl, rfl, rfl⟩
  · exact ⟨rfl, rfl, rfl, rfl⟩
theorem four {xs : List PyData} (h : xs.length = 4) : ∃ a b c d, xs = [a, b, c, d] := by
  match xs, h with
  | [a, b, c, d], _ => exact ⟨a, b, c, d, rfl⟩
theorem str_two {y : PyData} {a b : Str} (h : y ∈ ([.str a, .str b] : List PyData)) : ∃ w, y = .str w ∧ (w = a ∨ w = b) := by
  simp only [List.mem_cons, List.not_mem_nil, or_false] at h
  rcases h with rfl | rfl
  · exact ⟨a, rfl, .inl rfl⟩
  · exact ⟨b, rfl, .inr rfl⟩
section
variable {Φ : Orc}
theorem drawn_ok {N : Nat} {c : Ct} (hd : DrawOk Φ 16) (ho : OneOk Φ 17) (hc : Fd N c) (hN : N + 200 < 10000000) :
    ∃ b c', runF pg Φ d20 [.own c] = some (.ret (.dat (bkD b)) [some (.own c')]) ∧ BkOk b ∧ Fd (N + 200) c' := by
  suffices key : ∃ fr, runF pg Φ d20 [.own c] = some fr ∧ ∃ b c', fr = .ret (.dat (bkD b)) [some (.own c')] ∧ BkOk b ∧ Fd (N + 200) c' by
    obtain ⟨fr, h1, b, c', rfl, h2, h3⟩ := key
    exact ⟨b, c', h1, h2, h3⟩
  refine r_of rfl ?_
  refine h_asgV (g_lst wa_nil rfl) ?_
  -- how many rules
  obtain ⟨v1, c1, e1, p1, q1, f1⟩ := g_draw (p := pg) (i := 0) (ρ := [some (.own c), some (.own (.lst [])), none, none, none, none]) (e := .lit (.int 6)) hd rfl rfl x_lit hc (by omega) (by omega) (by omega)
  obtain ⟨v2, c2, e2, p2, q2, f2⟩ := g_draw (p := pg) (i := 0) (ρ := [some (.own c1), some (.own (.lst [])), none, none, none, none]) (e := .lit (.int 31)) hd rfl rfl x_lit f1 (by omega) (by omega) (by omega)
  obtain ⟨y, c3, e3, hy, f3⟩ := ho.1 (N + 2) c2 [.int v1, .int v2, .int 30] f2 (by omega) (by simp) (by simp)
  have hm : ∃ m : Nat, y = .int (m : Int) ∧ m ≤ 30 := by
    simp only [List.mem_cons, List.not_mem_nil, or_false] at hy
    rcases hy with rfl | rfl | rfl
    · exact ⟨v1.toNat, by rw [Int.toNat_of_nonneg p1], by omega⟩
    · exact ⟨v2.toNat, by rw [Int.toNat_of_nonneg p2], by omega⟩
    · exact ⟨30, rfl, by omega⟩
  obtain ⟨m, rfl, hm⟩ := hm
  have er : W1 pg Φ (.call 17 [.var 0, .lst [.call 16 [.var 0, .lit (.int 6)], .call 16 [.var 0, .lit (.int 31)], .lit (.int 30)]]) [some (.own c), some (.own (.lst [])), none, none, none, none] (.int (m : Int)) [some (.own c3), some (.own (.lst [])), none, none, none, none] :=
    g_lent (ρ1 := [some (.own c2), some (.own (.lst [])), none, none, none, none]) (v2 := .own (.lst [.int v1, .int v2, .int 30])) rfl rfl (g_own rfl) (g_lst (wa_cons e1 (wa_cons e2 (wa_cons x_lit wa_nil))) rfl) e3
  refine h_rng1W (fun j ρ => ∃ c' rs s2 s3, Fd (N + 3 + 5 * j) c' ∧ rs.length = j ∧ (∀ r ∈ rs, RuleOk r) ∧ ρ = [some (.own c'), some (.own (.lst rs)), s2, s3, none, none]) er (by
    show (decide (-1000000 ≤ (m : Int)) && decide ((m : Int) ≤ 1000000)) = true
    rw [decide_eq_true (by omega), decide_eq_true (by omega)]
    rfl) m (Int.toNat_natCast m) ⟨c3, [], none, none, f3, rfl, (fun _ h => nomatch h), rfl⟩ (fun j hj ρ hi => ?_) fun ρ hi => ?_
  · obtain ⟨c', rs, s2, s3, g1, g2, g3, rfl⟩ := hi
    -- the four
    obtain ⟨acc, ρ', ⟨a1, a2, c4, a3, rfl⟩, a4⟩ := g_lcS (p := pg) (Φ := Φ) (v := 4) (it := .rng [.lit (.int 4)]) (e := .call 17 [.var 0, .lst [.lit (.str "k"), .lit (.str "k2"), .lit (.str "a"), .lit (.str "long1234"), .lit .none, .lit .none]])
      (ρ := [some (.own c'), some (.own (.lst rs)), I j, s3, none, none]) (xs := (List.range (4 : Int).toNat).map fun (i : Nat) => PyData.int (0 + (i : Int)))
      (fun k acc ρ => acc.length = k ∧ (∀ a ∈ acc, WantOk a) ∧ ∃ c4, Fd (N + 3 + 5 * j + k) c4 ∧ ρ = [some (.own c4), some (.own (.lst rs)), I j, s3, none, none]) rfl (rng1_ev x_lit rfl) (by simp) ⟨rfl, (fun _ h => nomatch h), c', g1, rfl⟩
      (fun k x acc ρ hx hi => by
        obtain ⟨b1, b2, c4, b3, rfl⟩ := hi
        have hk : k < 4 := by
          have := (List.getElem?_eq_some_iff.mp hx).1
          simpa using this
        obtain ⟨y, c5, e5, hy, f5⟩ := g_one (p := pg) (i := 0) (ρ := [some (.own c4), some (.own (.lst rs)), I j, s3, some (.dat x), none]) (es := [.lit (.str "k"), .lit (.str "k2"), .lit (.str "a"), .lit (.str "long1234"), .lit .none, .lit .none]) ho rfl rfl
          (wa_cons x_lit (wa_cons x_lit (wa_cons x_lit (wa_cons x_lit (wa_cons x_lit (wa_cons x_lit wa_nil)))))) b3 (by omega) (by simp) (by simp)
        refine ⟨y, _, e5, by rw [List.length_append, b1]; rfl, fun a ha => ?_, c5, f5, rfl⟩
        rcases List.mem_append.mp ha with h | h
        · exact b2 a h
        · simp only [List.mem_cons, List.not_mem_nil, or_false] at h
          rw [h]
          exact want_of hy)
      (fun k acc ρ hi => by
        obtain ⟨b1, b2, c4, b3, rfl⟩ := hi
        exact ⟨b1, rfl⟩)
    obtain ⟨w1, w2, w3, w4, rfl⟩ := four a1
    refine h_asg (g_blt1 a4 rfl rfl) ?_
    obtain ⟨y, c5, e5, hy, f5⟩ := g_one (p := pg) (i := 0) (ρ := [some (.own c4), some (.own (.lst rs)), I j, some (.dat (.tuple [w1, w2, w3, w4])), none, none]) (es := [.lit (.str "across"), .lit (.str "down")]) ho rfl rfl (wa_cons x_lit (wa_cons x_lit wa_nil)) a3 (by simp; omega) (by simp) (by simp)
    obtain ⟨w, rfl, hw⟩ := str_two hy
    refine h_app (ds := rs) rfl (ρ1 := [some (.own c5), some (.own (.lst rs)), I j, some (.dat (.tuple [w1, w2, w3, w4])), none, none]) (d := .tuple [w1, w2, w3, w4, .str w]) (g_bin (x_var rfl) (g_tup (wa_cons e5 wa_nil) rfl) rfl) rfl (decide_eq_true (by omega)) ?_
    refine h_nil ⟨c5, rs ++ [.tuple [w1, w2, w3, w4, .str w]], _, _, f5.up (by simp; omega), by rw [List.length_append, g2]; rfl, fun r hr => ?_, rfl⟩
    rcases List.mem_append.mp hr with h | h
    · exact g3 r h
    · simp only [List.mem_cons, List.not_mem_nil, or_false] at h
      exact ⟨w1, w2, w3, w4, w, h, hw, a2⟩
  · obtain ⟨c', rs, s2, s3, g1, g2, g3, rfl⟩ := hi
    obtain ⟨y1, c4, e4, hy1, f4⟩ := g_one (p := pg) (i := 0) (ρ := [some (.own c'), some (.own (.lst rs)), s2, s3, none, none]) (es := [.lit (.str "left"), .lit (.str "right")]) ho rfl rfl (wa_cons x_lit (wa_cons x_lit wa_nil)) g1 (by omega) (by simp) (by simp)
    obtain ⟨y2, c5, e5, hy2, f5⟩ := g_one (p := pg) (i := 0) (ρ := [some (.own c4), some (.own (.lst rs)), s2, s3, none, none]) (es := [.lit (.str "upper"), .lit (.str "lower")]) ho rfl rfl (wa_cons x_lit (wa_cons x_lit wa_nil)) f4 (by omega) (by simp) (by simp)
    obtain ⟨s, rfl, hs⟩ := str_two hy1
    obtain ⟨v, rfl, hv⟩ := str_two hy2
    refine h_asg (ρ1 := [some (.own c5), some (.own (.lst rs)), s2, s3, none, none]) (g_tup (wa_cons e4 (wa_cons e5 wa_nil)) rfl) ?_
    obtain ⟨y3, c6, e6, hy3, f6⟩ := g_one (p := pg) (i := 0) (ρ := [some (.own c5), some (.own (.lst rs)), s2, s3, none, some (.dat (.tuple [.str s, .str v]))]) (es := [.lit (.str "across"), .lit (.str "down")]) ho rfl rfl (wa_cons x_lit (wa_cons x_lit wa_nil)) f5 (by omega) (by simp) (by simp)
    obtain ⟨w, rfl, hw⟩ := str_two hy3
    exact h_ret (ρ1 := [some (.own c6), some (.own (.lst rs)), s2, s3, none, some (.dat (.tuple [.str s, .str v]))]) (g_tup (wa_cons (x_var rfl) (wa_cons (g_blt1 (x := .list rs) (g_own rfl) rfl rfl) (wa_cons e6 wa_nil))) rfl)
      ⟨_, rfl, ⟨s, v, rs, w⟩, c6, rfl, ⟨hs, hv, hw, by show rs.length ≤ 30; omega, g3⟩, f6.up (by omega)⟩
end
end K50
namespace K50
open PySem L2 Mini
def No (y : PyData) : Prop := okD y = true ∧ bookB y = false
theorem no3 {h r w : PyData} (kh : okD h = true) (kr : okD r = true) (kw : okD w = true) (hf : handB h = false ∨ wordD words w = false ∨ rowD 0 30 r = false ∨ rulesB r = false) : No (.tuple [h, r, w]) := by
  refine ⟨?_, ?_⟩
  · show okAll [h, r, w] = true
    simp only [okAll, kh, kr, kw, Bool.and_self]
  · show (handB h && (wordD words w && (rowD 0 30 r && rulesB r))) = false
    rcases hf with e | e | e | e <;> rw [e] <;> simp
theorem ok_list' {xs : List PyData} (h : ∀ x ∈ xs, okD x = true) : okD (.list xs) = true := by
  show okAll xs = true
  exact okAll_iff.mpr h
theorem ok_tuple' {xs : List PyData} (h : ∀ x ∈ xs, okD x = true) : okD (.tuple xs) = true := by
  show okAll xs = true
  exact okAll_iff.mpr h
def odds : List PyData := [.str "Across", .str "left", .str "", .none, .int 0, .bool true, .tuple [.str "across"], .list [.str "down"], .str "acrossdown"]
theorem odd_no {y : PyData} (h : y ∈ odds) : okD y = true ∧ wordD words y = false := by
  unfold odds at h
  simp only [List.mem_cons, List.not_mem_nil, or_false] at h
  rcases h with rfl | rfl | rfl | rfl | rfl | rfl | rfl | rfl | rfl <;> exact ⟨by decide +kernel, by decide +kernel⟩
def kinds : List PyData := [.str "K", .str "", .str "1k", .str "abcdefghi", .int 0, .bool true, .tuple [.str "k"], .list [.str "k"], .str "a b", .str "_k"]
theorem kind_no {y : PyData} (h : y ∈ kinds) : okD y = true ∧ wantB y = false := by
  unfold kinds at h
  simp only [List.mem_cons, List.not_mem_nil, or_false] at h
  rcases h with rfl | rfl | rfl | rfl | rfl | rfl | rfl | rfl | rfl | rfl <;> exact ⟨by decide +kernel, by decide +kernel⟩
def fourT : List PyData := [.str "k", .none, .str "k2", .none, .str "down"]
/-- the bent rules -/
def bents (kind odd : PyData) (at_ : Nat) : List PyData := [.tuple (fourT.set at_ kind), .tuple (fourT.take 4 ++ [odd]), .list fourT, .tuple (fourT.drop 1), .tuple (fourT ++ [.str "down"]), .tuple (fourT.take 4), .none, .str "down", .tuple []]
theorem rule5 {a b c d w : PyData} (ka : okD a = true) (kb : okD b = true) (kc : okD c = true) (kd : okD d = true) (kw : okD w = true) (h : wantB a = false ∨ wantB b = false ∨ wantB c = false ∨ wantB d = false ∨ wordD words w = false) : okD (.tuple [a, b, c, d, w]) = true ∧ ruleB (.tuple [a, b, c, d, w]) = false := by
  refine ⟨?_, ?_⟩
  · show okAll [a, b, c, d, w] = true
    simp only [okAll, ka, kb, kc, kd, kw, Bool.and_self]
  · show (wordD words w && (wantB a && (wantB b && (wantB c && wantB d)))) = false
    rcases h with e | e | e | e | e <;> rw [e] <;> simp
theorem bent_no {kind odd y : PyData} {at_ : Nat} (hk : kind ∈ kinds) (ho : odd ∈ odds) (ha : at_ < 4) (h : y ∈ bents kind odd at_) : okD y = true ∧ ruleB y = false := by
  obtain ⟨k1, k2⟩ := kind_no hk
  obtain ⟨o1, o2⟩ := odd_no ho
  unfold bents at h
  simp only [List.mem_cons, List.not_mem_nil, or_false] at h
  rcases h with rfl | rfl | rfl | rfl | rfl | rfl | rfl | rfl | rfl
  · match at_, ha with
    | 0, _ => exact rule5 k1 (by decide +kernel) (by decide +kernel) (by decide +kernel) (by decide +kernel) (.inl k2)
    | 1, _ => exact rule5 (by decide +kernel) k1 (by decide +kernel) (by decide +kernel) (by decide +kernel) (.inr (.inl k2))
    | 2, _ => exact rule5 (by decide +kernel) (by decide +kernel) k1 (by decide +kernel) (by decide +kernel) (.inr (.inr (.inl k2)))
    | 3, _ => exact rule5 (by decide +kernel) (by decide +kernel) (by decide +kernel) k1 (by decide +kernel) (.inr (.inr (.inr (.inl k2))))
  · exact rule5 (by decide +kernel) (by decide +kernel) (by decide +kernel) (by decide +kernel) o1 (.inr (.inr (.inr (.inr o2))))
  all_goals exact ⟨by decide +kernel, by decide +kernel⟩
/-- the things that are no books -/
def no1 (b : Bk) (odd : PyData) : List PyData :=
  [.none, .list [.tuple [.str b.s, .str b.v], .tuple b.rs, .str b.w], .tuple [.tuple [.str b.s, .str b.v], .tuple b.rs], .tuple [.tuple [.str b.s, .str b.v], .tuple b.rs, .str b.w, .str b.w], .tuple [.tuple [.str b.s, .str b.v], .list b.rs, .str b.w],
    .tuple [.tuple [.str b.s, .str b.v], .tuple b.rs, odd], .tuple [.tuple [.str b.s, .str b.v], .none, .str b.w], .int 5, .str "", .dict []]
def no2 (b : Bk) : List PyData :=
  [.tuple [.tuple [.str b.v, .str b.s], .tuple b.rs, .str b.w], .tuple [.tuple [.str b.s], .tuple b.rs, .str b.w], .tuple [.list [.str b.s, .str b.v], .tuple b.rs, .str b.w], .tuple [.tuple [.str "left", .str "left"], .tuple b.rs, .str b.w], .tuple [.str "left", .tuple b.rs, .str b.w]]
def no3L (b : Bk) : List PyData :=
  [.tuple [.tuple [.str "upper", .str "lower"], .tuple b.rs, .str b.w], .tuple [.tuple [.str "Left", .str "upper"], .tuple b.rs, .str b.w], .tuple [.none, .tuple b.rs, .str b.w], .tuple [.tuple [.str b.s, .str b.v, .str "upper"], .tuple b.rs, .str b.w]]
def no4 (b : Bk) (bad : PyData) (spot : Nat) : List PyData := (List.replicate 12 [PyData.tuple [.tuple [.str b.s, .str b.v], .tuple (b.rs.take spot ++ [bad] ++ b.rs.drop spot), .str b.w]]).flatten
def no5 (b : Bk) : List PyData :=
  [.tuple [.tuple [.str b.s, .str b.v], .tuple (List.replicate 31 (.tuple fourT)), .str b.w], .tuple [.tuple [.str b.s, .str b.v], .tuple (List.replicate 40 (.tuple fourT)), .str b.w]]
theorem book_parts {b : Bk} (h : BkOk b) : okD (.str b.s) = true ∧ okD (.str b.v) = true ∧ okD (.str b.w) = true ∧ okD (.tuple b.rs) = true ∧ okD (.tuple [.str b.s, .str b.v]) = true := by
  have := ok_tup h.ok.1
  have h1 := this (.tuple [.str b.s, .str b.v]) (by simp)
  have h2 := ok_tup h1
  exact ⟨h2 _ (by simp), h2 _ (by simp), this _ (by simp), this _ (by simp), h1⟩
theorem no1_ok {b : Bk} {odd y : PyData} (h : BkOk b) (ho : odd ∈ odds) (hy : y ∈ no1 b odd) : No y := by
  obtain ⟨k1, k2, k3, k4, k5⟩ := book_parts h
  obtain ⟨o1, o2⟩ := odd_no ho
  have kl : okD (.list b.rs) = true := ok_list' (ok_tup k4)
  unfold no1 at hy
  simp only [List.mem_cons, List.not_mem_nil, or_false] at hy
  rcases hy with rfl | rfl | rfl | rfl | rfl | rfl | rfl | rfl | rfl | rfl
  · exact ⟨rfl, rfl⟩
  · exact ⟨ok_list' fun x hx => (by simp only [List.mem_cons, List.not_mem_nil, or_false] at hx; rcases hx with rfl | rfl | rfl <;> assumption), rfl⟩
  · exact ⟨ok_tuple' fun x hx => (by simp only [List.mem_cons, List.not_mem_nil, or_false] at hx; rcases hx with rfl | rfl <;> assumption), rfl⟩
  · exact ⟨ok_tuple' fun x hx => (by simp only [List.mem_cons, List.not_mem_nil, or_false] at hx; rcases hx with rfl | rfl | rfl | rfl <;> assumption), rfl⟩
  · exact no3 k5 kl k3 (.inr (.inr (.inl rfl)))
  · exact no3 k5 k4 o1 (.inr (.inl o2))
  · exact no3 k5 rfl k3 (.inr (.inr (.inl rfl)))
  · exact ⟨by decide +kernel, rfl⟩
  · exact ⟨by decide +kernel, rfl⟩
  · exact ⟨rfl, rfl⟩
theorem no2_ok {b : Bk} {y : PyData} (h : BkOk b) (hy : y ∈ no2 b) : No y := by
  obtain ⟨k1, k2, k3, k4, k5⟩ := book_parts h
  unfold no2 at hy
  simp only [List.mem_cons, List.not_mem_nil, or_false] at hy
  rcases hy with rfl | rfl | rfl | rfl | rfl
  · refine no3 (ok_tuple' fun x hx => (by simp only [List.mem_cons, List.not_mem_nil, or_false] at hx; rcases hx with rfl | rfl <;> assumption)) k4 k3 (.inl ?_)
    show (wordD sides (.str b.v) && _) = false
    have : wordD sides (.str b.v) = false := by rcases h.v with e | e <;> rw [e] <;> decide +kernel
    rw [this]
    rfl
  · exact no3 (ok_tuple' fun x hx => (by simp only [List.mem_cons, List.not_mem_nil, or_false] at hx; rw [hx]; exact k1)) k4 k3 (.inl rfl)
  · exact no3 (ok_list' fun x hx => (by simp only [List.mem_cons, List.not_mem_nil, or_false] at hx; rcases hx with rfl | rfl <;> assumption)) k4 k3 (.inl rfl)
  · exact no3 (by decide +kernel) k4 k3 (.inl (by decide +kernel))
  · exact no3 (by decide +kernel) k4 k3 (.inl rfl)
theorem no3L_ok {b : Bk} {y : PyData} (h : BkOk b) (hy : y ∈ no3L b) : No y := by
  obtain ⟨k1, k2, k3, k4, k5⟩ := book_parts h
  unfold no3L at hy
  simp only [List.mem_cons, List.not_mem_nil, or_false] at hy
  rcases hy with rfl | rfl | rfl | rfl
  · exact no3 (by decide +kernel) k4 k3 (.inl (by decide +kernel))
  · exact no3 (by decide +kernel) k4 k3 (.inl (by decide +kernel))
  · exact no3 rfl k4 k3 (.inl rfl)
  · have ku : okD (.str "upper") = true := by decide +kernel
    exact no3 (ok_tuple' fun x hx => (by simp only [List.mem_cons, List.not_mem_nil, or_false] at hx; rcases hx with rfl | rfl | rfl <;> assumption)) k4 k3 (.inl rfl)
theorem no4_ok {b : Bk} {bad y : PyData} {spot : Nat} (h : BkOk b) (kb : okD bad = true) (hb : ruleB bad = false) (hy : y ∈ no4 b bad spot) : No y := by
  obtain ⟨k1, k2, k3, k4, k5⟩ := book_parts h
  have kr := ok_tup k4
  unfold no4 at hy
  obtain ⟨l, hl, hy⟩ := List.mem_flatten.mp hy
  rw [List.eq_of_mem_replicate hl] at hy
  simp only [List.mem_cons, List.not_mem_nil, or_false] at hy
  subst hy
  refine no3 k5 (ok_tuple' fun x hx => ?_) k3 (.inr (.inr (.inr ?_)))
  · rcases List.mem_append.mp hx with hx | hx
    · rcases List.mem_append.mp hx with hx | hx
      · exact kr x (List.mem_of_mem_take hx)
      · simp only [List.mem_cons, List.not_mem_nil, or_false] at hx
        rw [hx]
        exact kb
    · exact kr x (List.mem_of_mem_drop hx)
  · show (b.rs.take spot ++ [bad] ++ b.rs.drop spot).all ruleB = false
    rw [List.all_append, List.all_append]
    have : [bad].all ruleB = false := by simp [hb]
    rw [this]
    simp
theorem no5_ok {b : Bk} {y : PyData} (h : BkOk b) (hy : y ∈ no5 b) : No y := by
  obtain ⟨k1, k2, k3, k4, k5⟩ := book_parts h
  unfold no5 at hy
  simp only [List.mem_cons, List.not_mem_nil, or_false] at hy
  have kf : okD (.tuple fourT) = true := by decide +kernel
  rcases hy with rfl | rfl
  · exact no3 k5 (ok_tuple' fun x hx => (by rw [List.eq_of_mem_replicate hx]; exact kf)) k3 (.inr (.inr (.inl (row_false (by rw [List.length_replicate]; omega)))))
  · exact no3 k5 (ok_tuple' fun x hx => (by rw [List.eq_of_mem_replicate hx]; exact kf)) k3 (.inr (.inr (.inl (row_false (by rw [List.length_replicate]; omega)))))
section
variable {Φ : Orc}
abbrev S13 (c : Ct) (b : Bk) (s2 s3 s4 s5 s6 s7 s8 s9 s10 s11 s12 : Option Sv) : Mini.Env := [some (.own c), some (.dat (bkD b)), s2, s3, s4, s5, s6, s7, s8, s9, s10, s11, s12]
theorem no_book_ok {N : Nat} {c : Ct} {b : Bk} (hb : BkOk b) (hd : DrawOk Φ 16) (ho : OneOk Φ 17) (hc : Fd N c) (hN : N + 200 < 10000000) :
    ∃ y c', runF pg Φ d19 [.own c, .dat (bkD b)] = some (.ret (.dat y) [some (.own c'), some (.dat (bkD b))]) ∧ No y ∧ Fd (N + 10) c' := by
  suffices key : ∃ fr, runF pg Φ d19 [.own c, .dat (bkD b)] = some fr ∧ ∃ y c', fr = .ret (.dat y) [some (.own c'), some (.dat (bkD b))] ∧ No y ∧ Fd (N + 10) c' by
    obtain ⟨fr, h1, b, c', rfl, h2, h3⟩ := key
    exact ⟨b, c', h1, h2, h3⟩
  have hn := hb.n
  generalize hH : PyData.tuple [.str b.s, .str b.v] = H
  generalize hR : PyData.tuple b.rs = R
  generalize hW : PyData.str b.w = W
  have hbk : bkD b = .tuple [H, R, W] := by rw [← hH, ← hR, ← hW]; rfl
  refine r_of rfl ?_
  refine h_asgT (ds := [H, R, W]) (x_var (by rw [← hbk]; rfl)) rfl ?_
  obtain ⟨odd, c1, e1, ho1, f1⟩ := g_oneE (p := pg) (i := 0) (ρ := S13 c b (some (.dat H)) (some (.dat R)) (some (.dat W)) none none none none none none none none) (e := .lst [.lit (.str "Across"), .lit (.str "left"), .lit (.str ""), .lit .none, .lit (.int 0), .lit (.bool true), .tup [.lit (.str "across")], .lst [.lit (.str "down")], .lit (.str "acrossdown")]) (xs := odds) ho rfl rfl rfl rfl hc (by omega) (by decide +kernel) (by decide +kernel)
  refine h_asg e1 ?_
  refine h_asgV (v := .own (.lst (no1 b odd))) (ρ1 := S13 c1 b (some (.dat H)) (some (.dat R)) (some (.dat W)) (some (.dat odd)) none none none none none none none) ?_ ?_
  · rw [← hH, ← hR, ← hW]
    rfl
  refine h_asgV (v := .own (.lst (no1 b odd ++ no2 b))) (ρ1 := S13 c1 b (some (.dat H)) (some (.dat R)) (some (.dat W)) (some (.dat odd)) (some (.own (.lst (no1 b odd)))) none none none none none none) ?_ ?_
  · rw [← hH, ← hR, ← hW]
    rfl
  refine h_asgV (v := .own (.lst (no1 b odd ++ no2 b ++ no3L b))) (ρ1 := S13 c1 b (some (.dat H)) (some (.dat R)) (some (.dat W)) (some (.dat odd)) (some (.own (.lst (no1 b odd ++ no2 b)))) none none none none none none) ?_ ?_
  · rw [← hH, ← hR, ← hW]
    rfl
  refine h_asg (d := .tuple fourT) rfl ?_
  generalize hL : no1 b odd ++ no2 b ++ no3L b = L
  have hLok : ∀ y ∈ L, No y := fun y hy => by
    rw [← hL] at hy
    rcases List.mem_append.mp hy with hy | hy
    · rcases List.mem_append.mp hy with hy | hy
      · exact no1_ok hb ho1 hy
      · exact no2_ok hb hy
    · exact no3L_ok hb hy
  have hLl : L.length = 19 := by rw [← hL]; rfl
  obtain ⟨kind, c2, e2, hk, f2⟩ := g_oneE (p := pg) (i := 0) (ρ := S13 c1 b (some (.dat H)) (some (.dat R)) (some (.dat W)) (some (.dat odd)) (some (.own (.lst L))) (some (.dat (.tuple fourT))) none none none none none) (e := .lst [.lit (.str "K"), .lit (.str ""), .lit (.str "1k"), .lit (.str "abcdefghi"), .lit (.int 0), .lit (.bool true), .tup [.lit (.str "k")], .lst [.lit (.str "k")], .lit (.str "a b"), .lit (.str "_k")]) (xs := kinds) ho rfl rfl rfl rfl f1 (by omega) (by decide +kernel) (by decide +kernel)
  refine h_asg e2 ?_
  obtain ⟨at_, c3, e3, p3, q3, f3⟩ := g_draw (p := pg) (i := 0) (ρ := S13 c2 b (some (.dat H)) (some (.dat R)) (some (.dat W)) (some (.dat odd)) (some (.own (.lst L))) (some (.dat (.tuple fourT))) (some (.dat kind)) none none none none) (e := .lit (.int 4)) hd rfl rfl x_lit f2 (by omega) (by omega) (by omega)
  refine h_asg e3 ?_
  obtain ⟨at_, rfl⟩ : ∃ m : Nat, at_ = (m : Int) := ⟨at_.toNat, by omega⟩
  refine h_asgV (v := .own (.lst (bents kind odd at_))) (ρ1 := S13 c3 b (some (.dat H)) (some (.dat R)) (some (.dat W)) (some (.dat odd)) (some (.own (.lst L))) (some (.dat (.tuple fourT))) (some (.dat kind)) (I at_) none none none) ?_ ?_
  · match at_, q3 with
    | 0, _ => rfl
    | 1, _ => rfl
    | 2, _ => rfl
    | 3, _ => rfl
    | n + 4, q => exact absurd q (by omega)
  obtain ⟨bad, c4, e4, hbad, f4⟩ := g_oneL (p := pg) (i := 0) (j := 10) (ρ := S13 c3 b (some (.dat H)) (some (.dat R)) (some (.dat W)) (some (.dat odd)) (some (.own (.lst L))) (some (.dat (.tuple fourT))) (some (.dat kind)) (I at_) (some (.own (.lst (bents kind odd at_)))) none none) (xs := bents kind odd at_) (r := []) ho rfl rfl rfl (by decide) f3 (by omega) (by simp [bents]) (by simp [bents])
  have elen : V1 pg Φ (.bin .add (.blt .len [.var 3]) (.lit (.int 1))) (S13 c4 b (some (.dat H)) (some (.dat R)) (some (.dat W)) (some (.dat odd)) (some (.own (.lst L))) (some (.dat (.tuple fourT))) (some (.dat kind)) (I at_) (some (.own (.lst (bents kind odd at_)))) none none) (.int ((b.rs.length : Int) + 1)) := by
    rw [← hR]
    exact g_add (l_tup (x_var rfl)) x_lit
  obtain ⟨spot, c5, e5, p5, q5, f5⟩ := g_draw (p := pg) (i := 0) hd rfl rfl elen f4 (by omega) (by omega) (by omega)
  refine h_parD (ρ1 := S13 c5 b (some (.dat H)) (some (.dat R)) (some (.dat W)) (some (.dat odd)) (some (.own (.lst L))) (some (.dat (.tuple fourT))) (some (.dat kind)) (I at_) (some (.own (.lst (bents kind odd at_)))) none none) (wa_cons e4 (wa_cons e5 wa_nil)) rfl ?_
  obtain ⟨kb, rb⟩ := bent_no hk ho1 (by omega) hbad
  obtain ⟨spot, rfl⟩ : ∃ m : Nat, spot = (m : Int) := ⟨spot.toNat, by omega⟩
  refine h_asgV (v := .own (.lst (L ++ no4 b bad spot ++ no5 b))) (ρ1 := S13 c5 b (some (.dat H)) (some (.dat R)) (some (.dat W)) (some (.dat odd)) (some (.own (.lst L))) (some (.dat (.tuple fourT))) (some (.dat kind)) (I at_) (some (.own (.lst (bents kind odd at_)))) (some (.dat bad)) (I spot)) ?_ ?_
  · have e6 : W1 pg Φ (.bin .add (.bin .add (.slc (.var 3) none (some (.var 12))) (.tup [(.var 11)])) (.slc (.var 3) (some (.var 12)) none)) (S13 c5 b (some (.dat H)) (some (.dat R)) (some (.dat W)) (some (.dat odd)) (some (.own (.lst L))) (some (.dat (.tuple fourT))) (some (.dat kind)) (I at_) (some (.own (.lst (bents kind odd at_)))) (some (.dat bad)) (I spot)) (.tuple (b.rs.take spot ++ [bad] ++ b.rs.drop spot)) (S13 c5 b (some (.dat H)) (some (.dat R)) (some (.dat W)) (some (.dat odd)) (some (.own (.lst L))) (some (.dat (.tuple fourT))) (some (.dat kind)) (I at_) (some (.own (.lst (bents kind odd at_)))) (some (.dat bad)) (I spot)) := by
      rw [← hR]
      exact g_addT (g_addT (g_take (x_var rfl) (x_var rfl)) (g_tup (wa_cons (x_var rfl) wa_nil) rfl) (by rw [List.length_take]; show _ + 1 ≤ _; omega)) (g_drop (x_var rfl) (x_var rfl)) (by rw [List.length_append, List.length_take, List.length_drop]; show _ + 1 + _ ≤ _; omega)
    generalize hBR : b.rs.take spot ++ [bad] ++ b.rs.drop spot = BR at e6
    have e7 : evE pg Φ (.lst [(.tup [(.var 2), (.bin .add (.bin .add (.slc (.var 3) none (some (.var 12))) (.tup [(.var 11)])) (.slc (.var 3) (some (.var 12)) none)), (.var 4)])]) (S13 c5 b (some (.dat H)) (some (.dat R)) (some (.dat W)) (some (.dat odd)) (some (.own (.lst L))) (some (.dat (.tuple fourT))) (some (.dat kind)) (I at_) (some (.own (.lst (bents kind odd at_)))) (some (.dat bad)) (I spot)) = .ok (.val (.own (.lst [.tuple [H, .tuple BR, W]]))) (S13 c5 b (some (.dat H)) (some (.dat R)) (some (.dat W)) (some (.dat odd)) (some (.own (.lst L))) (some (.dat (.tuple fourT))) (some (.dat kind)) (I at_) (some (.own (.lst (bents kind odd at_)))) (some (.dat bad)) (I spot)) :=
      g_lst (wa_cons (g_tup (wa_cons (x_var rfl) (wa_cons e6 (wa_cons (x_var rfl) wa_nil))) rfl) wa_nil) rfl
    have e4' : no4 b bad spot = (List.replicate 12 [PyData.tuple [H, .tuple BR, W]]).flatten := by rw [← hH, ← hW, ← hBR]; rfl
    have e5' : no5 b = [.tuple [H, .tuple (List.replicate 31 (.tuple fourT)), W], .tuple [H, .tuple (List.replicate 40 (.tuple fourT)), W]] := by rw [← hH, ← hW]; rfl
    rw [e4', e5']
    refine g_binR (ra := .val (.own (.lst (L ++ (List.replicate 12 [PyData.tuple [H, .tuple BR, W]]).flatten)))) (rb := .val (.own (.lst [.tuple [H, .tuple (List.replicate 31 (.tuple fourT)), W], .tuple [H, .tuple (List.replicate 40 (.tuple fourT)), W]]))) (g_binR (ra := .slot 6) (rb := .val (.own (.lst (List.replicate 12 [PyData.tuple [H, .tuple BR, W]]).flatten))) rfl (g_binR (ra := .val (.own (.lst [.tuple [H, .tuple BR, W]]))) (rb := .val (.dat (.int 12))) e7 rfl rfl) ?_) rfl ?_
    · show (if fitN (L.length + _) = true then some (Sv.own (.lst (L ++ (List.replicate 12 [PyData.tuple [H, .tuple BR, W]]).flatten))) else none) = _
      exact if_pos (decide_eq_true (by rw [hLl]; show 19 + 12 ≤ 1000000; decide))
    · show (if fitN ((L ++ (List.replicate 12 [PyData.tuple [H, .tuple BR, W]]).flatten).length + 2) = true then _ else none) = _
      exact if_pos (decide_eq_true (by rw [List.length_append, hLl]; show 19 + 12 + 2 ≤ 1000000; decide))
  have hAll : ∀ y ∈ L ++ no4 b bad spot ++ no5 b, No y := fun y hy => by
    rcases List.mem_append.mp hy with hy | hy
    · rcases List.mem_append.mp hy with hy | hy
      · exact hLok y hy
      · exact no4_ok hb kb rb hy
    · exact no5_ok hb hy
  have hne : L ++ no4 b bad spot ++ no5 b ≠ [] := by simp [no5]
  have hll : (L ++ no4 b bad spot ++ no5 b).length ≤ 1000000 := by
    rw [List.length_append, List.length_append, hLl]
    show 19 + 12 + 2 ≤ 1000000
    decide
  generalize L ++ no4 b bad spot ++ no5 b = A at hAll hne hll
  obtain ⟨y, c6, e6, hy, f6⟩ := g_oneL (p := pg) (i := 0) (j := 6) (ρ := S13 c5 b (some (.dat H)) (some (.dat R)) (some (.dat W)) (some (.dat odd)) (some (.own (.lst A))) (some (.dat (.tuple fourT))) (some (.dat kind)) (I at_) (some (.own (.lst (bents kind odd at_)))) (some (.dat bad)) (I spot)) (xs := A) (r := []) ho rfl rfl rfl (by decide) f5 (by omega) hne hll
  exact h_ret e6 ⟨_, rfl, y, c6, rfl, hAll y hy, f6.up (by omega)⟩
end
end K50
namespace K50
open PySem L2 Mini
theorem f_drawn (n : Nat) {N : Nat} {c : Ct} (hc : Fd N c) (hN : N + 200 < 10000000) : ∃ b c', O (n + 3) 20 [.own c] = some (.ret (.dat (bkD b)) [some (.own c')]) ∧ BkOk b ∧ Fd (N + 200) c' := by
  rw [oO (dd := d20) rfl]
  exact drawn_ok (f_draw _) (f_one n) hc hN
theorem f_no (n : Nat) {N : Nat} {c : Ct} {b : Bk} (hb : BkOk b) (hc : Fd N c) (hN : N + 200 < 10000000) : ∃ y c', O (n + 3) 19 [.own c, .dat (bkD b)] = some (.ret (.dat y) [some (.own c'), some (.dat (bkD b))]) ∧ No y ∧ Fd (N + 10) c' := by
  rw [oO (dd := d19) rfl]
  exact no_book_ok hb (f_draw _) (f_one n) hc hN
theorem f_feed (n : Nat) {ns : List Int} {k : Nat} (hk : k ≤ 1000) : ∃ c, O (n + 1) 15 [.dat (.list (ns.map .int)), .dat (.int (k : Int))] = some (.ret (.own c) [some (.dat (.list (ns.map .int))), I k]) ∧ Fd 0 c := by
  rw [oO (dd := dFeed) rfl]
  exact feed_ok hk
section
variable {p : Pg} {Φ : Orc} {ρ ρ1 ρ2 : Mini.Env}
theorem ne_same {a b : IE} {s : Str} (ha : W1 p Φ a ρ (.str s) ρ1) (hb : W1 p Φ b ρ1 (.str s) ρ2) : W1 p Φ (.cmp .ne a b) ρ (.bool false) ρ2 := by
  have := c_neS ha hb
  rw [decide_eq_true rfl] at this
  exact this
/-- repr of a book -/
theorem repr_bk {a : IE} {b : Bk} (h : BkOk b) (ha : W1 p Φ a ρ (bkD b) ρ1) : W1 p Φ (.blt .repr [a]) ρ (.str (PyData.shown (bkD b))) ρ1 := by
  obtain ⟨h1, _, h3, h4⟩ := h.ok
  exact g_blt (wa_cons ha wa_nil) (repr_ok h1 rfl (by omega) (by omega))
/-- repr of two books -/
theorem repr_two {a e : IE} {b c : Bk} (h : BkOk b) (hc : BkOk c) (ha : W1 p Φ a ρ (bkD b) ρ1) (he : W1 p Φ e ρ1 (bkD c) ρ2) : W1 p Φ (.blt .repr [.lst [a, e]]) ρ (.str (PyData.shown (.list [bkD b, bkD c]))) ρ2 := by
  obtain ⟨h1, _, h3, h4⟩ := h.ok
  obtain ⟨k1, _, k3, k4⟩ := hc.ok
  refine g_blt1 (g_lst (wa_cons ha (wa_cons he wa_nil)) rfl) rfl (repr_ok (ok_list' fun x hx => ?_) rfl ?_ ?_)
  · simp only [List.mem_cons, List.not_mem_nil, or_false] at hx
    rcases hx with rfl | rfl <;> assumption
  · show max (bkD b).depth (max (bkD c).depth 0) + 1 ≤ 64
    omega
  · show 1 + (nd (bkD b) + (nd (bkD c) + 0)) ≤ 900
    omega
end
abbrev S8 (ns : List Int) (k : Nat) (c : Ct) (b : Bk) (s5 s6 s7 : Option Sv) : Mini.Env := [some (.dat (.list (ns.map .int))), I k, some (.own c), some (.dat (bkD b)), some (.dat (.str (PyData.shown (bkD b)))), s5, s6, s7]
def firstB (b : Bk) (j : Nat) : List PyData := (List.range j).map fun w => bkD (turnB w b)
theorem first_succ (b : Bk) (j : Nat) : firstB b (j + 1) = firstB b j ++ [bkD (turnB j b)] := by
  unfold firstB
  rw [List.range_succ, List.map_append]
  rfl
theorem last_at (xs : List PyData) (y : PyData) : L2.atI (xs ++ [y]) (-1) = some y := by
  unfold L2.atI L2.ixN
  simp only [List.length_append, List.length_cons, List.length_nil]
  rw [if_neg (show ¬ (0 : Int) ≤ -1 by omega), if_pos (by omega), show ((-1 : Int) + ((xs.length + (0 + 1) : Nat) : Int)).toNat = xs.length by omega]
  show (xs ++ [y])[xs.length]? = _
  rw [List.getElem?_append_right (Nat.le_refl _), Nat.sub_self]
  rfl
section
variable {n : Nat} {ρ : Mini.Env}
theorem k_told {e ew eq : IE} {b : Bk} {w : Nat} {q : Bool} (h : BkOk b) (hw : w < 3) (he : V1 pg (O (n + 7)) e ρ (bkD b)) (h2 : V1 pg (O (n + 7)) ew ρ (.int (w : Int))) (h3 : V1 pg (O (n + 7)) eq ρ (.bool q)) : V1 pg (O (n + 7)) (.call 22 [e, ew, eq]) ρ (bkD (turnB w b)) :=
  let ⟨_, x⟩ := f_told n (q := q) h hw
  g_call (wa_cons he (wa_cons h2 (wa_cons h3 wa_nil))) x
end
theorem law_ok (n : Nat) (ns : List Int) : ∃ ps, runF pg (O (n + 8)) d24 [.dat (.list (ns.map .int))] = some (.ret (.dat (.bool true)) ps) := by
  refine rr rfl ?_
  refine h_rng1 (fun j ρ => ∃ s1 s2 s3 s4 s5 s6 s7, ρ = [some (.dat (.list (ns.map .int))), s1, s2, s3, s4, s5, s6, s7]) x_lit rfl 3 rfl ⟨_, _, _, _, _, _, _, rfl⟩ (fun k hk ρ hi => ?_) fun ρ hi => ?_
  · obtain ⟨s1, s2, s3, s4, s5, s6, s7, rfl⟩ := hi
    obtain ⟨c0, e0, f0⟩ := f_feed (n + 7) (ns := ns) (k := k) (by omega)
    refine h_asgV (g_call (ds := [.list (ns.map .int), .int (k : Int)]) (wa_cons (x_var rfl) (wa_cons (x_var rfl) wa_nil)) e0) ?_
    obtain ⟨b, c1, e1, hb, f1⟩ := f_drawn (n + 5) f0 (by omega)
    refine h_asg (g_lent1 rfl rfl e1) ?_
    have e2 := repr_bk (p := pg) (Φ := O (n + 8)) (ρ := [some (.dat (.list (ns.map .int))), I k, some (.own c1), some (.dat (bkD b)), s4, s5, s6, s7]) hb (x_var (i := 3) rfl)
    show Ht _ (evSs pg (O (n + 8)) 1 _ [some (.dat (.list (ns.map .int))), I k, some (.own c1), some (.dat (bkD b)), s4, s5, s6, s7])
    refine h_par (rs := [.val (.dat (.str (PyData.shown (bkD b)))), .val (.own (.lst []))]) (vs := [.dat (.str (PyData.shown (bkD b))), .own (.lst [])]) (ls := [none, none]) (ρ1 := [some (.dat (.list (ns.map .int))), I k, some (.own c1), some (.dat (bkD b)), s4, s5, s6, s7]) (ρ2 := [some (.dat (.list (ns.map .int))), I k, some (.own c1), some (.dat (bkD b)), s4, s5, s6, s7]) ?_ rfl rfl ?_
    · rw [evEs_cons, e2]
      rfl
    show Ht _ (evSs pg (O (n + 8)) 1 _ (S8 ns k c1 b (some (.own (.lst []))) s6 s7))
    -- the three turnings
    refine h_rng1 (fun w ρ => ∃ s6 s7, ρ = S8 ns k c1 b (some (.own (.lst (firstB b w)))) s6 s7) x_lit rfl 3 rfl ⟨_, _, rfl⟩ (fun w hw ρ hi => ?_) fun ρ hi => ?_
    · obtain ⟨s6, s7, rfl⟩ := hi
      obtain ⟨_, e3⟩ := f_turned (n + 7) hb hw
      refine h_asg (g_call (ds := [bkD b, .int (w : Int)]) (wa_cons (x_var rfl) (wa_cons (x_var rfl) wa_nil)) e3) ?_
      have ht := turn_ok hb w
      refine h_ifF (ne_same (repr_two ht ht (k_told (n := n + 1) hb hw (x_var rfl) (x_var rfl) x_lit) (k_told (n := n + 1) hb hw (x_var rfl) (x_var rfl) x_lit)) (repr_two ht ht (x_var rfl) (x_var rfl))) ?_
      refine h_app (ds := firstB b w) rfl (k_told (n := n + 1) hb hw (x_var rfl) (x_var rfl) x_lit) rfl (decide_eq_true (by unfold firstB; rw [List.length_map, List.length_range]; omega)) ?_
      show Ht _ (evSs pg (O (n + 8)) 1 _ (S8 ns k c1 b (some (.own (.lst (firstB b w ++ [bkD (turnB w b)])))) (I w) (some (.dat (bkD (turnB w b))))))
      have e4 := repr_bk (p := pg) (Φ := O (n + 8)) (ρ := S8 ns k c1 b (some (.own (.lst (firstB b w ++ [bkD (turnB w b)])))) (I w) (some (.dat (bkD (turnB w b))))) (turn_ok ht w) (k_told (n := n + 1) ht hw (x_ixL (i := 5) (k := .neg (.lit (.int 1))) rfl (g_neg x_lit) (last_at _ _)) (x_var (i := 6) rfl) (x_lit (d := .bool false)))
      rw [turn_turn hb] at e4
      refine h_ifF (ne_same e4 (x_var rfl)) ?_
      exact h_nil ⟨_, _, by rw [first_succ]⟩
    · obtain ⟨s6, s7, rfl⟩ := hi
      have t0 : firstB b 3 = [bkD (mirB b), bkD (ovrB b), bkD (sidB b)] := rfl
      rw [t0]
      have g1 := repr_bk (p := pg) (Φ := O (n + 8)) (ρ := S8 ns k c1 b (some (.own (.lst [bkD (mirB b), bkD (ovrB b), bkD (sidB b)]))) s6 s7) (ovrB_ok (mirB_ok hb)) (k_bk (f_over (n + 2)) (mirB_ok hb) (x_ixL (i := 5) (k := .lit (.int 0)) rfl x_lit rfl))
      have g2 := repr_bk (p := pg) (Φ := O (n + 8)) (ρ := S8 ns k c1 b (some (.own (.lst [bkD (mirB b), bkD (ovrB b), bkD (sidB b)]))) s6 s7) (mirB_ok (ovrB_ok hb)) (k_bk (f_mirror (n + 2)) (ovrB_ok hb) (x_ixL (i := 5) (k := .lit (.int 1)) rfl x_lit rfl))
      have g3 := repr_bk (p := pg) (Φ := O (n + 8)) (ρ := S8 ns k c1 b (some (.own (.lst [bkD (mirB b), bkD (ovrB b), bkD (sidB b)]))) s6 s7) (sidB_ok (mirB_ok hb)) (k_bk (f_side (n + 2)) (mirB_ok hb) (x_ixL (i := 5) (k := .lit (.int 0)) rfl x_lit rfl))
      have g4 := repr_bk (p := pg) (Φ := O (n + 8)) (ρ := S8 ns k c1 b (some (.own (.lst [bkD (mirB b), bkD (ovrB b), bkD (sidB b)]))) s6 s7) (ovrB_ok (sidB_ok hb)) (k_bk (f_over (n + 2)) (sidB_ok hb) (x_ixL (i := 5) (k := .lit (.int 2)) rfl x_lit rfl))
      rw [ovr_mir hb] at g1
      rw [sid_mir hb] at g3
      refine h_ifF ((g_orF (x := .bool false) (ne_same g1 g2) rfl).trans (ne_same g3 g4)) ?_
      -- what is no book
      refine h_rng1 (fun w ρ => ∃ c s6, Fd (200 + 20 * w) c ∧ ρ = S8 ns k c b (some (.own (.lst [bkD (mirB b), bkD (ovrB b), bkD (sidB b)]))) s6 s7) x_lit rfl 3 rfl ⟨c1, s6, f1, rfl⟩ (fun w hw ρ hi => ?_) fun ρ hi => ?_
      · obtain ⟨c, s6, f2, rfl⟩ := hi
        obtain ⟨y, c2, e5, hy, f3⟩ := f_no (n + 5) hb f2 (by omega)
        have a1 : W1 pg (O (n + 8)) (.call 19 [.var 2, .var 3]) (S8 ns k c b (some (.own (.lst [bkD (mirB b), bkD (ovrB b), bkD (sidB b)]))) (I w) s7) y (S8 ns k c2 b (some (.own (.lst [bkD (mirB b), bkD (ovrB b), bkD (sidB b)]))) (I w) s7) := g_lent rfl rfl (g_own rfl) (x_var rfl) e5
        obtain ⟨v, c3, e6, _, _, f4⟩ := g_draw (p := pg) (i := 2) (ρ := S8 ns k c2 b (some (.own (.lst [bkD (mirB b), bkD (ovrB b), bkD (sidB b)]))) (I w) s7) (e := .lit (.int 2)) (f_draw (n + 7)) rfl rfl x_lit f3 (by omega) (by omega) (by omega)
        obtain ⟨_, e7⟩ := f_refused n (q := decide (v = 0)) hy.1 hy.2 hw
        refine h_ifF (ρ1 := S8 ns k c3 b (some (.own (.lst [bkD (mirB b), bkD (ovrB b), bkD (sidB b)]))) (I w) s7) (g_notB (q := true) (g_call (ds := [y, .int (w : Int), .bool (decide (v = 0))]) (wa_cons a1 (wa_cons (x_var rfl) (wa_cons (c_eqI e6 x_lit) wa_nil))) e7)) ?_
        exact h_nil ⟨c3, _, f4.up (by omega), rfl⟩
      · obtain ⟨c, s6, f2, rfl⟩ := hi
        refine h_ifF (ne_same (repr_bk hb (x_var rfl)) (x_var rfl)) ?_
        exact h_nil ⟨_, _, _, _, _, _, _, rfl⟩
  · obtain ⟨s1, s2, s3, s4, s5, s6, s7, rfl⟩ := hi
    exact h_ret x_lit ⟨_, rfl⟩
theorem pure_law : ∀ ns : List Int, ns.length ≤ 63 → ∃ ps, orc pg fs 20 ilaw [.dat (.list (ns.map .int))] = some (.ret (.dat (.bool true)) ps) := fun ns _ => by
  show ∃ ps, O (19 + 1) 24 _ = _
  rw [oO (dd := d24) rfl]
  exact law_ok 11 ns
end K50
namespace K50
open PySem L2 Mini
abbrev R : PySem.W.OpenRow := PySem.W.OpenLaw.row PySem.Challenge.rw_brushedsigns_k50_mirrored_books
def nms : List Str := "LETTERS" :: "DIGITS" :: "MOST_SIGNS" :: "is_row" :: "is_name" :: "SignError" :: "BadBook" :: "WORDS" :: "SIDES" :: "HEIGHTS" :: "is_word_of" :: "is_hand" :: "MOST_RULES" :: "is_want" :: "is_rule" :: "is_book" :: "need_book" :: "other_of" :: "mirrored_of" :: "turned_over_of" :: "side_of" :: "mirrored_book" :: "turned_over_book" :: "side_book" :: "_law_feed" :: "_law_draw" :: "_law_one" :: "_law_mixed" :: "_law_no_book" :: "_law_drawn_book" :: "_law_turned" :: "_law_told" :: "_law_is_refused" :: []
theorem run (w : World) : HandSHeadRun.RunEq R (PySem.W.view R.prog [41]) hk ob 4000 nms w := by
  intro os
  kernel_rfl
end K50
open PySem PySem.W PySem.Calls PyProof.Rows
theorem PySem.Challenge.cw_brushedsigns_k50_mirrored_books_holds : PySem.Challenge.rw_brushedsigns_k50_mirrored_books.Holds := by
  w_on; o_law
  refine HandSHeadRun.head_any (r := OpenLaw.row PySem.Challenge.rw_brushedsigns_k50_mirrored_books) (q := view (OpenLaw.row PySem.Challenge.rw_brushedsigns_k50_mirrored_books).prog [41]) (H := K50.hk) (ob := K50.ob) (M := 4000) (loose := K50.nms) (d := HandSHeadRun.topDef (OpenLaw.row PySem.Challenge.rw_brushedsigns_k50_mirrored_books).prog 41) (kwd := []) K50.ob_eq
    (by kernel_rfl) (fun s => by kernel_rfl) K50.run (by kernel_rfl) (by kernel_rfl) (by kernel_rfl) (by rfl) (by first | assumption | decide +kernel) (by decide +kernel) ⟨rfl, rfl, rfl, rfl, rfl, by decide +kernel⟩ ?hw ?hc
  case hw => w_witness2
  case hc =>
    refine Mini.walk_ofG (l := PySem.Challenge.rw_brushedsigns_k50_mirrored_books) (n := 63) (k := 20) (x := "_law_script") rfl (by decide) (by kernel_rfl) ⟨rfl, by decide, by decide⟩ ?F
    intro w mg fa h Y G hmg0
    obtain ⟨K, KX, c⟩ := Y
    have hmg : mg ("law" : PySem.Str) = some (.ref fa) := by
      have e : (HandSHeadRun.topDef (OpenLaw.row PySem.Challenge.rw_brushedsigns_k50_mirrored_books).prog 41).name = ("law" : PySem.Str) := by kernel_rfl
      rw [← e]
      exact hmg0
    obtain ⟨fd, D⟩ := K50.ds_of c
    have Gs := K50.gs_of KX G c
    have M := K50.mf_of KX G c
    have e := hmg.symm.trans Gs.g24
    cases e
    exact ⟨K, fd 24, _, KX, fun s u => (D.d24.bindsA (ps := K50.P24) (fun _ _ _ _ _ _ us hl => match us, hl with | [_], _ => rfl)) s [u] rfl, Mini.lawP_of (K50.pure_law), fun base _ _ => (K50.all_ok D Gs M 20).c24.g⟩
