import PyProof.Rows.All
import Wide.All
import OpenK.AllK
import Wide.FinOn
import HandS.ForMost
import KE.DataEq
import KE.DataCmp
import KE.SortData
import KE.DataMinMax
import PyProof.Rows.RuleB_pow
import HandS.Strs
import HandS.TupAny
import HandS.TupMul
import HandS.Conv
import HandS.Exc
import HandS.Wide
import PyProof.NeKinds
import PyProof.EqKinds
import HandS.Style
import KE.DataIsa
import KE.DataFind
import PyProof.SumAny
import PyProof.ReprRoads
import PyProof.CallFns
import HandS.SortInts
import HandS.WordsDict
import KE.KDictZip
import HandS.Zip
import HandS.Walk
import HandS.DictComp
import HandS.Defaults
import HandS.Ends
import HandS.EndBits
import HandS.Head0
import HandS.Head1
import HandS.Head2
import HandS.HeadEnd
import HandS.HeadHook1
import HandS.HeadHook2
import HandS.MakeKwOnly
import PySem.Challenge.RW_hiddentable_k02_rows_and_contexts
set_option Elab.async false
set_option linter.all false
set_option maxRecDepth 100000
set_option maxHeartbeats 4000000
/-! H1: a small language of pure values, its meaning as a plain function. Values are PyData; a list or dict that a
def owns is changed by value. -/
namespace Hx
open PySem

/-! ### the language -/
inductive Lit where
  | non | bl (b : Bool) | int (i : Int) | str (s : Str)
def Lit.d : Lit → PyData
  | .non => .none
  | .bl b => .bool b
  | .int i => .int i
  | .str s => .str s
inductive BOp where | add | sub | mul | lmul | fdiv | mod | pow
inductive COp where | eq | ne | lt | le | gt | ge | isin | notin | is | nis
inductive Ty where | int | bool | str | tuple | list | dict
inductive BI where
  | len | tuple | list | all | any | sum | max1 | min1 | max2 | min2 | sorted | int | abs | repr | str | dict
/-- a target: a name, a tuple of names -/
inductive Tgt where
  | v (i : Nat) | tup (is : List Nat)
mutual
inductive IE where
  | v (i : Nat)
  | lit (c : Lit)
  | con (x : Str) (c : Lit)
  | tup (es : IEs)
  | lst (es : IEs)
  | edct
  | neg (a : IE)
  | bin (o : BOp) (a b : IE)
  | cmp (o : COp) (a b : IE)
  | chain (o p : COp) (a b c : IE)
  | isN (pos : Bool) (a : IE)
  | not (a : IE)
  | and (a : IE) (es : IEs)
  | or (a : IE) (es : IEs)
  | ite (c : IC) (a b : IE)
  | call (f : Nat) (es : IEs)
  | callk (f : Nat) (es : IEs) (k : IE)
  | bi (f : BI) (es : IEs)
  | mk (t : Bool) (it : II)
  | isa (t : Ty) (a : IE)
  | idx (a i : IE)
  | sl (a : IE) (lo hi : IO)
  | rev (a : IE)
  | ixof (a b : IE)
  | dzip (a b : IE)
  | dget (a k : IE)
  | comp (t : Tgt) (it : II) (cs : ICs) (e : IE)
  | comp2 (t : Tgt) (it : II) (cs : ICs) (t2 : Tgt) (it2 : II) (cs2 : ICs) (e : IE)
  | dcomp2 (t : Tgt) (it : II) (t2 : Tgt) (it2 : II) (k v : IE)
  | pop (x : Nat) (es : IEs)
inductive IEs where
  | nil
  | cons (e : IE) (es : IEs)
/-- a test; several -/
inductive IC where
  | val (e : IE)
  | not (c : IC)
  | and (c : IC) (cs : ICs)
  | or (c : IC) (cs : ICs)
inductive ICs where
  | nil
  | cons (c : IC) (cs : ICs)
inductive IO where
  | non
  | som (e : IE)
inductive II where
  | seq (a : IE)
  | rng (es : IEs)
  | zip (es : IEs)
  | enm (a : IE)
end
mutual
inductive IS where
  | asg (i : Nat) (e : IE)
  | unp (is : List Nat) (e : IE)
  | setix (x : Nat) (k e : IE)
  | aug (o : BOp) (i : Nat) (e : IE)
  | ex (e : IE)
  | app (x : Nat) (e : IE)
  | ext (x : Nat) (e : IE)
  | ret (e : IE)
  | ite (c : IC) (a b : ISs)
  | for_ (g : List Nat) (t : Tgt) (it : II) (b : ISs)
  | whl (g : List Nat) (c : IC) (b : ISs)
  | raise (c : Str) (es : IEs)
  | nev
  | pas
inductive ISs where
  | nil
  | cons (s : IS) (r : ISs)
end

/-! ### results -/
abbrev Env := List (Option PyData)
inductive Res (α : Type) where
  | ok (a : α)
  | exc (c : Str) (xs : List PyData) (ρ : Env)
  | stuck
def Res.bnd {α β : Type} : Res α → (α → Res β) → Res β
  | .ok a, f => f a
  | .exc c xs ρ, _ => .exc c xs ρ
  | .stuck, _ => .stuck
def Res.of {α : Type} : Option α → Res α
  | some a => .ok a
  | none => .stuck
@[simp] theorem bnd_ok {α β : Type} (a : α) (f : α → Res β) : (Res.ok a).bnd f = f a := rfl
@[simp] theorem bnd_exc {α β : Type} (c : Str) (xs : List PyData) (ρ : Env) (f : α → Res β) : (Res.exc c xs ρ : Res α).bnd f = .exc c xs ρ := rfl
@[simp] theorem bnd_stuck {α β : Type} (f : α → Res β) : (Res.stuck : Res α).bnd f = .stuck := rfl
@[simp] theorem of_some {α : Type} (a : α) : Res.of (some a) = .ok a := rfl
@[simp] theorem of_none {α : Type} : Res.of (none : Option α) = .stuck := rfl
/-- a def's meaning: its arguments to its answer and the last values of what it may change -/
abbrev Mng := List PyData → Res (PyData × List PyData)

/-! ### what operations give -/
def lim : Nat := 1000000
def intsOf : List PyData → Option (List Int)
  | [] => some []
  | .int i :: r => (intsOf r).map (i :: ·)
  | _ :: _ => none
def boolsOf : List PyData → Option (List Bool)
  | [] => some []
  | .bool i :: r => (boolsOf r).map (i :: ·)
  | _ :: _ => none
def itemsOf : PyData → Option (List PyData)
  | .list xs => some xs
  | .tuple xs => some xs
  | _ => none
/-- of a list alone -/
def itemsL : PyData → Option (List PyData)
  | .list xs => some xs
  | _ => none
def bitsOk (a b : Int) : Bool := decide (a.natAbs.log2 + b.natAbs.log2 < 1000000)
def binD : BOp → PyData → PyData → Option PyData
  | .add, .int a, .int b => some (.int (a + b))
  | .add, .tuple a, .tuple b => if a.length + b.length ≤ lim then some (.tuple (a ++ b)) else none
  | .add, .list a, .list b => if a.length + b.length ≤ lim then some (.list (a ++ b)) else none
  | .add, .str a, .str b => if a.length + b.length ≤ lim then some (.str (a ++ b)) else none
  | .sub, .int a, .int b => some (.int (a - b))
  | .mul, .int a, .int b => if bitsOk a b = true then some (.int (a * b)) else none
  | .mul, .tuple a, .int k => if a ≠ [] ∧ 2 ≤ k ∧ k ≤ 1000 ∧ a.length ≤ 1000 then some (.tuple (List.replicate k.toNat a).flatten) else none
  | .lmul, .list a, .int k => if a.length * k.toNat ≤ lim ∧ -lim ≤ k ∧ k ≤ lim then some (.list (List.replicate k.toNat a).flatten) else none
  | .fdiv, .int a, .int b => if 0 < b ∧ b.natAbs.log2 < 9000 then some (.int (a / b)) else none
  | .mod, .int a, .int b => if 0 < b then some (.int (a % b)) else none
  | .pow, .int a, .int b => if 0 ≤ b ∧ b ≤ 1000 ∧ a.natAbs.log2 < 10000 then some (.int (a ^ b.toNat)) else none
  | _, _, _ => none
/-- two kinds that are never equal, whatever lies within; a tuple and the empty one -/
def isTup : PyData → Bool
  | .tuple _ => true
  | _ => false
def isNil : PyData → Bool
  | .tuple xs => xs.isEmpty
  | _ => false
def isLD : PyData → Bool
  | .list _ => true
  | .dict _ => true
  | _ => false
def eqTop (a b : PyData) : Bool := (isTup a && isNil b) || (isLD a && isTup b)
def eqOk (a b : PyData) : Bool := (a.plain && b.plain && decide (min a.depth b.depth ≤ 60)) || eqTop a b
/-- two that can be put in order -/
def ltOk (a b : PyData) : Bool := PySem.W.alike a b && (match a with
  | .none => false
  | _ => true) && decide (min a.depth b.depth ≤ 60)
def inOk (x : PyData) (xs : List PyData) : Bool := x.plain && PyData.plainAll xs && decide (min (PyData.depthAll xs) x.depth ≤ 60)
def onInts {α : Type} (f : Int → Int → α) (g : α) (x y : PyData) : α := match x, y with
  | .int a, .int b => f a b
  | _, _ => g
def cmpD : COp → PyData → PyData → Option Bool
  | .eq, a, b => if eqOk a b = true then some (PyData.eqv a b) else none
  | .ne, a, b => if eqOk a b = true then some (!PyData.eqv a b) else none
  | .lt, a, b => onInts (fun a b => some (decide (a < b))) (if ltOk a b = true then some (PySem.W.dataLt a b) else none) a b
  | .le, a, b => onInts (fun a b => some (decide (a ≤ b))) (if ltOk a b = true then some (!PySem.W.dataLt b a) else none) a b
  | .gt, a, b => onInts (fun a b => some (decide (b < a))) (if ltOk a b = true then some (PySem.W.dataLt b a) else none) a b
  | .ge, a, b => onInts (fun a b => some (decide (b ≤ a))) (if ltOk a b = true then some (!PySem.W.dataLt a b) else none) a b
  | .isin, x, y => (match y with
    | .list xs => if inOk x xs = true then some (xs.any fun y => PyData.eqv y x) else none
    | .tuple xs => if inOk x xs = true then some (xs.any fun y => PyData.eqv y x) else none
    | _ => none)
  | .notin, x, y => (match y with
    | .list xs => if inOk x xs = true then some (!xs.any fun y => PyData.eqv y x) else none
    | .tuple xs => if inOk x xs = true then some (!xs.any fun y => PyData.eqv y x) else none
    | _ => none)
  | .is, x, y => (match x, y with
    | .bool a, .bool b => some (decide (a = b))
    | _, _ => none)
  | .nis, x, y => (match x, y with
    | .bool a, .bool b => some (!decide (a = b))
    | _, _ => none)
/-- truth -/
def truD : PyData → Option Bool
  | .none => some false
  | .bool b => some b
  | .int i => some (i != 0)
  | .str s => if s.length ≤ lim then some (s.length != 0) else none
  | .list xs => some (!xs.isEmpty)
  | .tuple xs => some (!xs.isEmpty)
  | .dict _ => none
def isaD : Ty → PyData → Bool
  | .int, .int _ => true
  | .int, .bool _ => true
  | .bool, .bool _ => true
  | .str, .str _ => true
  | .tuple, .tuple _ => true
  | .list, .list _ => true
  | .dict, .dict _ => true
  | _, _ => false
def idxD : PyData → PyData → Option PyData
  | .list xs, .int i => L2.atI xs i
  | .tuple xs, .int i => L2.atI xs i
  | _, _ => none
def cutL (xs : List PyData) (lo hi : Option Int) : List PyData := (xs.drop (HT.sIx xs.length 0 lo)).take (HT.sIx xs.length xs.length hi - HT.sIx xs.length 0 lo)
def sliceD : PyData → Option Int → Option Int → Option PyData
  | .list xs, lo, hi => some (.list (cutL xs lo hi))
  | .tuple xs, lo, hi => some (.tuple (cutL xs lo hi))
  | _, _, _ => none
def revD : PyData → Option PyData
  | .list xs => some (.list xs.reverse)
  | .tuple xs => some (.tuple xs.reverse)
  | _ => none
def intD : PyData → Option Int
  | .int i => some i
  | _ => none
def asB : PyData → Option Bool
  | .bool b => some b
  | _ => none
def negD : PyData → Option Int
  | .int i => some (-i)
  | _ => none
def isNoneD : PyData → Bool
  | .none => true
  | _ => false
/-- all of them can be put in order -/
def alikeB (xs : List PyData) : Bool := (xs.all fun x => xs.all fun y => PySem.W.alike x y) && decide (PyData.depthAll xs ≤ 60)
def noNon (xs : List PyData) : Bool := xs.all fun x => match x with
  | .none => false
  | .list _ => false
  | _ => true
/-- tuples that are not empty; or none of them a tuple -/
def sortB (xs : List PyData) : Bool := (xs.all fun x => match x with
  | .tuple (_ :: _) => true
  | _ => false) || (xs.all fun x => match x with
  | .none => false
  | .tuple _ => false
  | _ => true)
def sortL (xs : List PyData) : List PyData := xs.mergeSort fun a b => !PySem.W.dataLt b a
def sortD (xs : List PyData) : Option (List PyData) := if alikeB xs = true ∧ sortB xs = true ∧ xs.length ≤ lim then some (sortL xs) else none
/-- the pairs of a list as a dict's pairs -/
def pairsOf : List PyData → Option (List (PyData × PyData))
  | [] => some []
  | .tuple [k, v] :: r => (pairsOf r).map ((k, v) :: ·)
  | _ :: _ => none
def keyOk : PyData → Bool
  | .int _ => true
  | .str _ => true
  | _ => false
def putD (kvs : List (PyData × PyData)) (k v : PyData) : List (PyData × PyData) :=
  if (kvs.any fun p => PyData.eqv p.1 k) = true then kvs.map (fun p => if PyData.eqv p.1 k = true then (p.1, v) else p) else kvs ++ [(k, v)]
def putsD (kvs more : List (PyData × PyData)) : List (PyData × PyData) := more.foldl (fun acc p => putD acc p.1 p.2) kvs
mutual
/-- no list lies within -/
def noL : PyData → Bool
  | .none => true
  | .bool _ => true
  | .int _ => true
  | .str _ => true
  | .list _ => false
  | .tuple xs => noLs xs
  | .dict kvs => noLk kvs
def noLs : List PyData → Bool
  | [] => true
  | x :: xs => noL x && noLs xs
def noLk : List (PyData × PyData) → Bool
  | [] => true
  | (_, v) :: r => noL v && noLk r
end
def biD : BI → List PyData → Option PyData
  | .len, [.list xs] => some (.int xs.length)
  | .len, [.tuple xs] => some (.int xs.length)
  | .len, [.dict xs] => some (.int xs.length)
  | .tuple, [.list xs] => some (.tuple xs)
  | .tuple, [.tuple xs] => some (.tuple xs)
  | .list, [.list xs] => some (.list xs)
  | .list, [.tuple xs] => some (.list xs)
  | .all, [.list xs] => (boolsOf xs).map fun bs => .bool (bs.all id)
  | .any, [.list xs] => (boolsOf xs).map fun bs => .bool (bs.any id)
  | .sum, [.list xs] => (intsOf xs).map fun ns => .int ns.sum
  | .sum, [.tuple xs] => (intsOf xs).map fun ns => .int ns.sum
  | .max1, [d] => match itemsOf d with
    | some (x :: xs) => if alikeB (x :: xs) = true ∧ noNon (x :: xs) = true then some (PySem.W.maxD x xs) else none
    | _ => none
  | .min1, [d] => match itemsOf d with
    | some (x :: xs) => if alikeB (x :: xs) = true ∧ noNon (x :: xs) = true then some (PySem.W.minD x xs) else none
    | _ => none
  | .max2, [.int a, .int b] => some (.int (if b > a then b else a))
  | .min2, [.int a, .int b] => some (.int (if b < a then b else a))
  | .sorted, [.list xs] => (sortD xs).map .list
  | .int, [.int a] => some (.int a)
  | .int, [.bool b] => some (.int (if b then 1 else 0))
  | .abs, [.int a] => some (.int (if a < 0 then -a else a))
  | .repr, [d] => if (d.showable && decide (d.depth ≤ 60) && decide (d.shown.length ≤ lim)) && (!d.hasDict || noL d) then some (.str d.shown) else none
  | .str, [.int a] => if a.natAbs.log2 < 1900 then some (.str (toString a)) else none
  | .dict, [.list xs] => match pairsOf xs with
    | some kvs => if kvs.all fun p => keyOk p.1 then some (.dict (putsD [] kvs)) else none
    | none => none
  | _, _ => none
def rngD : List PyData → Option (List PyData)
  | [.int n] => if -1000000 ≤ n ∧ n ≤ 1000000 then some ((List.range n.toNat).map fun (i : Nat) => .int (i : Int)) else none
  | [.int a, .int b] => if -1000000 ≤ a ∧ a ≤ 1000000 ∧ -1000000 ≤ b ∧ b ≤ 1000000 then some ((List.range (b - a).toNat).map fun (i : Nat) => .int (a + (i : Int))) else none
  | [.int a, .int b, .int c] => if -1000000 ≤ a ∧ a ≤ 1000000 ∧ -1000000 ≤ b ∧ b ≤ 1000000 ∧ c = -1 then some ((List.range (a - b).toNat).map fun (i : Nat) => .int (a - (i : Int))) else none
  | _ => none
def zip2 : List PyData → List PyData → List PyData
  | x :: xs, y :: ys => .tuple [x, y] :: zip2 xs ys
  | _, _ => []
def zip3 : List PyData → List PyData → List PyData → List PyData
  | x :: xs, y :: ys, z :: zs => .tuple [x, y, z] :: zip3 xs ys zs
  | _, _, _ => []
def zipD : List PyData → Option (List PyData)
  | [.list xs, .list ys] => some (zip2 xs ys)
  | [.tuple xs, .tuple ys] => some (zip2 xs ys)
  | _ => none
/-- dict(zip(xs, ys)) -/
def dzipD : PyData → PyData → Option PyData
  | .tuple xs, .tuple ys => (pairsOf (zip2 xs ys)).bind fun kvs => if (kvs.all fun p => keyOk p.1) = true then some (.dict (putsD [] kvs)) else none
  | _, _ => none
/-- d[k] -/
def dgetD : PyData → PyData → Option PyData
  | .dict kvs, k => if keyOk k = true then (kvs.find? fun p => PyData.eqv p.1 k).map (·.2) else none
  | _, _ => none
def enmL : Nat → List PyData → List PyData
  | _, [] => []
  | n, x :: xs => .tuple [.int n, x] :: enmL (n + 1) xs
/-- xs.index(k), ints -/
def ixofD (xs : List PyData) (y : PyData) : Option Int := match y with
  | .int k => (intsOf xs).bind fun ns => if k ∈ ns then some ((ns.idxOf k : Nat) : Int) else none
  | _ => none
/-- xs.pop(), xs.pop(i) -/
def popD : Option PyData → List PyData → Option (PyData × List PyData)
  | some (.list xs), [] => xs[xs.length - 1]?.map fun d => (d, xs.dropLast)
  | some (.list xs), [.int i] => if xs.length ≤ lim then (L2.ixN xs.length i).bind fun j => xs[j]?.map fun d => (d, xs.eraseIdx j) else none
  | _, _ => none
/-- binding a target -/
def setAll : List Nat → List PyData → Env → Option Env
  | [], [], ρ => some ρ
  | i :: is, x :: xs, ρ => setAll is xs (ρ.set i (some x))
  | _, _, _ => none
def bindT : Tgt → PyData → Env → Option Env
  | .v i, d, ρ => some (ρ.set i (some d))
  | .tup is, .tuple xs, ρ => setAll is xs ρ
  | .tup _, _, _ => none
def Tgt.own : Tgt → List Nat
  | .v i => [i]
  | .tup is => is
/-- slots forgotten, slots given back -/
def wipe (ρ : Env) : List Nat → Env
  | [] => ρ
  | i :: is => (wipe ρ is).set i none
def back (ρ ρ' : Env) : List Nat → Env
  | [] => ρ'
  | i :: is => (back ρ ρ' is).set i (ρ[i]?.getD none)
/-- a comprehension's turns -/
def turns (f : PyData → Env → Res (List PyData × Env)) : List PyData → Env → Res (List PyData × Env)
  | [], ρ => .ok ([], ρ)
  | x :: xs, ρ => (f x ρ).bnd fun (a, ρ1) => (turns f xs ρ1).bnd fun (b, ρ2) => .ok (a ++ b, ρ2)
/-- no exception comes out of a comprehension -/
def Res.calm {α : Type} : Res α → Res α
  | .ok a => .ok a
  | _ => .stuck
def setOut : List Nat → List PyData → Env → Env
  | i :: is, d :: ds, ρ => setOut is ds (ρ.set i (some d))
  | _, _, ρ => ρ
/-- the slot of the name that stands at a place of a call's arguments -/
def argV : IEs → Nat → Option Nat
  | .nil, _ => none
  | .cons (.v i) _, 0 => some i
  | .cons _ _, 0 => none
  | .cons _ es, k + 1 => argV es k
/-- the names that stand at the places of a call's arguments that the callee may change -/
def refArgs (br : List Nat) (es : IEs) : List Nat := br.filterMap (argV es)
/-- .. their values as they stand when the call is made -/
def patch : List Nat → IEs → List PyData → Env → List PyData
  | [], _, ds, _ => ds
  | i :: is, es, ds, ρ => match argV es i with
    | some j => (patch is es ds ρ).set i ((ρ[j]?.join).getD .none)
    | none => patch is es ds ρ
/-- a callee: what it may change (places of its parameters), its meaning -/
structure Callee where
  br : List Nat
  m : Mng
/-- the call, its arguments given; rs: the slots that the callee changes -/
def runC (g : Callee) (ds : List PyData) (rs : List Nat) (ρ : Env) : Res (PyData × Env) := match g.m ds with
  | .ok p => .ok (p.1, setOut rs p.2 ρ)
  | .exc c xs _ => if g.br = [] then .exc c xs ρ else .stuck
  | .stuck => .stuck

/-! ### meanings -/
section
variable (Γ : List Callee)
mutual
def evE : IE → Env → Res (PyData × Env)
  | .v i, ρ => match ρ[i]? with
    | some (some d) => .ok (d, ρ)
    | _ => .stuck
  | .lit c, ρ => .ok (c.d, ρ)
  | .con _ c, ρ => .ok (c.d, ρ)
  | .tup es, ρ => (evEs es ρ).bnd fun (ds, ρ1) => .ok (.tuple ds, ρ1)
  | .lst es, ρ => (evEs es ρ).bnd fun (ds, ρ1) => .ok (.list ds, ρ1)
  | .edct, ρ => .ok (.dict [], ρ)
  | .neg a, ρ => (evE a ρ).bnd fun (d, ρ1) => (Res.of (negD d)).bnd fun i => .ok (.int i, ρ1)
  | .bin o a b, ρ => (evE a ρ).bnd fun (x, ρ1) => (evE b ρ1).bnd fun (y, ρ2) => (Res.of (binD o x y)).bnd fun d => .ok (d, ρ2)
  | .cmp o a b, ρ => (evE a ρ).bnd fun (x, ρ1) => (evE b ρ1).bnd fun (y, ρ2) => (Res.of (cmpD o x y)).bnd fun d => .ok (.bool d, ρ2)
  | .chain o p a b c, ρ => (evE a ρ).bnd fun (x, ρ1) => (evE b ρ1).bnd fun (y, ρ2) => (Res.of (cmpD o x y)).bnd fun k =>
      if k = true then (evE c ρ2).bnd fun (z, ρ3) => (Res.of (cmpD p y z)).bnd fun d => .ok (.bool d, ρ3) else .ok (.bool false, ρ2)
  | .isN pos a, ρ => (evE a ρ).bnd fun (x, ρ1) => .ok (.bool (isNoneD x == pos), ρ1)
  | .not a, ρ => (evE a ρ).bnd fun (d, ρ1) => (Res.of (asB d)).bnd fun k => .ok (.bool (!k), ρ1)
  | .and a es, ρ => (evE a ρ).bnd fun (x, ρ1) => (Res.of (asB x)).bnd fun k => if k = true then evAnd es ρ1 else .ok (.bool false, ρ1)
  | .or a es, ρ => (evE a ρ).bnd fun (x, ρ1) => (Res.of (asB x)).bnd fun k => if k = true then .ok (.bool true, ρ1) else evOr es ρ1
  | .ite c a b, ρ => (evT c ρ).bnd fun (k, ρ1) => if k = true then evE a ρ1 else evE b ρ1
  | .call f es, ρ => (evEs es ρ).bnd fun (ds, ρ1) => match Γ[f]? with
    | some g => runC g (patch g.br es ds ρ1) (refArgs g.br es) ρ1
    | none => .stuck
  | .callk f es k, ρ => (evEs es ρ).bnd fun (ds, ρ1) => (evE k ρ1).bnd fun (d, ρ2) => match Γ[f]? with
    | some g => if g.br = [] then runC g (ds ++ [d]) [] ρ2 else .stuck
    | none => .stuck
  | .bi f es, ρ => (evEs es ρ).bnd fun (ds, ρ1) => (Res.of (biD f ds)).bnd fun d => .ok (d, ρ1)
  | .mk t it, ρ => (evI it ρ).bnd fun (xs, ρ1) => .ok (if t = true then .tuple xs else .list xs, ρ1)
  | .isa t a, ρ => (evE a ρ).bnd fun (d, ρ1) => .ok (.bool (isaD t d), ρ1)
  | .idx a i, ρ => (evE a ρ).bnd fun (x, ρ1) => (evE i ρ1).bnd fun (y, ρ2) => (Res.of (idxD x y)).bnd fun d => .ok (d, ρ2)
  | .sl a lo hi, ρ => (evE a ρ).bnd fun (x, ρ1) => (evO lo ρ1).bnd fun (l, ρ2) => (evO hi ρ2).bnd fun (h, ρ3) =>
      (Res.of (sliceD x l h)).bnd fun d => .ok (d, ρ3)
  | .rev a, ρ => (evE a ρ).bnd fun (x, ρ1) => (Res.of (revD x)).bnd fun d => .ok (d, ρ1)
  | .ixof a b, ρ => (evE a ρ).bnd fun (x, ρ1) => (Res.of (itemsOf x)).bnd fun xs => (evE b ρ1).bnd fun (y, ρ2) => (Res.of (ixofD xs y)).bnd fun i => .ok (.int i, ρ2)
  | .dzip a b, ρ => (evE a ρ).bnd fun (x, ρ1) => (evE b ρ1).bnd fun (y, ρ2) => (Res.of (dzipD x y)).bnd fun d => .ok (d, ρ2)
  | .dget a k, ρ => (evE a ρ).bnd fun (x, ρ1) => (evE k ρ1).bnd fun (y, ρ2) => (Res.of (dgetD x y)).bnd fun d => .ok (d, ρ2)
  | .comp t it cs e, ρ => (evI it ρ).bnd fun (xs, ρ1) =>
      (turns (fun x ρ' => (Res.of (bindT t x (wipe ρ' t.own))).bnd fun ρ2 => (evCs cs ρ2).bnd fun (k, ρ3) =>
        if k = true then (evE e ρ3).bnd fun (d, ρ4) => .ok ([d], ρ4) else .ok ([], ρ3)) xs ρ1).calm.bnd fun (ds, ρ5) => if ds.length ≤ lim then .ok (.list ds, back ρ1 ρ5 t.own) else .stuck
  | .comp2 t it cs t2 it2 cs2 e, ρ => (evI it ρ).bnd fun (xs, ρ1) =>
      (turns (fun x ρ' => (Res.of (bindT t x (wipe ρ' (t.own ++ t2.own)))).bnd fun ρ2 => (evCs cs ρ2).bnd fun (k, ρ3) =>
        if k = true then (evI it2 ρ3).bnd fun (ys, ρ4) =>
          turns (fun y ρ'' => (Res.of (bindT t2 y (wipe ρ'' t2.own))).bnd fun ρ5 => (evCs cs2 ρ5).bnd fun (k2, ρ6) =>
            if k2 = true then (evE e ρ6).bnd fun (d, ρ7) => .ok ([d], ρ7) else .ok ([], ρ6)) ys ρ4
        else .ok ([], ρ3)) xs ρ1).calm.bnd fun (ds, ρ8) => if ds.length ≤ lim then .ok (.list ds, back ρ1 ρ8 (t.own ++ t2.own)) else .stuck
  | .dcomp2 t it t2 it2 k v, ρ => (evI it ρ).bnd fun (xs, ρ1) =>
      (turns (fun x ρ' => (Res.of (bindT t x (wipe ρ' (t.own ++ t2.own)))).bnd fun ρ2 => (evI it2 ρ2).bnd fun (ys, ρ4) =>
          turns (fun y ρ'' => (Res.of (bindT t2 y (wipe ρ'' t2.own))).bnd fun ρ5 => (evE k ρ5).bnd fun (a, ρ6) => (evE v ρ6).bnd fun (b, ρ7) =>
            if keyOk a = true then .ok ([.tuple [a, b]], ρ7) else .stuck) ys ρ4) xs ρ1).calm.bnd fun (ds, ρ8) =>
        (Res.of (pairsOf ds)).bnd fun kvs => if kvs.length ≤ lim then .ok (.dict (putsD [] kvs), back ρ1 ρ8 (t.own ++ t2.own)) else .stuck
  | .pop x es, ρ => (evEs es ρ).bnd fun (ds, ρ1) => (Res.of (popD (ρ1[x]?.join) ds)).bnd fun (d, l) => .ok (d, ρ1.set x (some (.list l)))
/-- the rest of x and y and .. as a value -/
def evAnd : IEs → Env → Res (PyData × Env)
  | .nil, ρ => .ok (.bool true, ρ)
  | .cons a es, ρ => (evE a ρ).bnd fun (x, ρ1) => (Res.of (asB x)).bnd fun k => if k = true then evAnd es ρ1 else .ok (.bool false, ρ1)
def evOr : IEs → Env → Res (PyData × Env)
  | .nil, ρ => .ok (.bool false, ρ)
  | .cons a es, ρ => (evE a ρ).bnd fun (x, ρ1) => (Res.of (asB x)).bnd fun k => if k = true then .ok (.bool true, ρ1) else evOr es ρ1
/-- a test -/
def evT : IC → Env → Res (Bool × Env)
  | .val e, ρ => (evE e ρ).bnd fun (d, ρ1) => (Res.of (truD d)).bnd fun k => .ok (k, ρ1)
  | .not a, ρ => (evT a ρ).bnd fun (k, ρ1) => .ok (!k, ρ1)
  | .and a cs, ρ => (evT a ρ).bnd fun (k, ρ1) => if k = true then evCs cs ρ1 else .ok (false, ρ1)
  | .or a cs, ρ => (evT a ρ).bnd fun (k, ρ1) => if k = true then .ok (true, ρ1) else evDs cs ρ1
/-- all of them; one of them -/
def evCs : ICs → Env → Res (Bool × Env)
  | .nil, ρ => .ok (true, ρ)
  | .cons a cs, ρ => (evT a ρ).bnd fun (k, ρ1) => if k = true then evCs cs ρ1 else .ok (false, ρ1)
def evDs : ICs → Env → Res (Bool × Env)
  | .nil, ρ => .ok (false, ρ)
  | .cons a cs, ρ => (evT a ρ).bnd fun (k, ρ1) => if k = true then .ok (true, ρ1) else evDs cs ρ1
def evEs : IEs → Env → Res (List PyData × Env)
  | .nil, ρ => .ok ([], ρ)
  | .cons a es, ρ => (evE a ρ).bnd fun (d, ρ1) => (evEs es ρ1).bnd fun (ds, ρ2) => .ok (d :: ds, ρ2)
def evO : IO → Env → Res (Option Int × Env)
  | .non, ρ => .ok (none, ρ)
  | .som e, ρ => (evE e ρ).bnd fun (d, ρ1) => (Res.of (intD d)).bnd fun i => .ok (some i, ρ1)
def evI : II → Env → Res (List PyData × Env)
  | .seq a, ρ => (evE a ρ).bnd fun (d, ρ1) => (Res.of (itemsOf d)).bnd fun xs => .ok (xs, ρ1)
  | .rng es, ρ => (evEs es ρ).bnd fun (ds, ρ1) => (Res.of (rngD ds)).bnd fun xs => .ok (xs, ρ1)
  | .zip es, ρ => (evEs es ρ).bnd fun (ds, ρ1) => (Res.of (zipD ds)).bnd fun xs => .ok (xs, ρ1)
  | .enm a, ρ => (evE a ρ).bnd fun (d, ρ1) => (Res.of (itemsL d)).bnd fun xs => .ok (enmL 0 xs, ρ1)
end
/-! ### statements -/
inductive Flow where
  | nx (ρ : Env)
  | rt (d : PyData) (ρ : Env)
def loopF (f : PyData → Env → Res Flow) : List PyData → Env → Res Flow
  | [], ρ => .ok (.nx ρ)
  | x :: xs, ρ => (f x ρ).bnd fun fl => match fl with
    | .nx ρ1 => loopF f xs ρ1
    | .rt d ρ1 => .ok (.rt d ρ1)
/-- n turns of a while at most -/
def whlN (c : Env → Res (Bool × Env)) (b : Env → Res Flow) : Nat → Env → Option (Res Flow)
  | 0, _ => none
  | n + 1, ρ => match c ρ with
    | .ok (true, ρ1) => (match b ρ1 with
      | .ok (.nx ρ2) => whlN c b n ρ2
      | r => some r)
    | .ok (false, ρ1) => some (.ok (.nx ρ1))
    | .exc x xs ρ1 => some (.exc x xs ρ1)
    | .stuck => some .stuck
noncomputable def whlS (c : Env → Res (Bool × Env)) (b : Env → Res Flow) (ρ : Env) : Res Flow :=
  open Classical in if h : ∃ n r, whlN c b n ρ = some r then h.choose_spec.choose else .stuck
mutual
noncomputable def exec : IS → Env → Res Flow
  | .asg i e, ρ => (evE Γ e ρ).bnd fun (d, ρ1) => .ok (.nx (ρ1.set i (some d)))
  | .unp is e, ρ => (evE Γ e ρ).bnd fun (d, ρ1) => (Res.of (bindT (.tup is) d ρ1)).bnd fun ρ2 => .ok (.nx ρ2)
  | .setix x k e, ρ => (evE Γ e ρ).bnd fun (d, ρ1) => (evE Γ k ρ1).bnd fun (i, ρ2) => match ρ2[x]?, i with
    | some (some (.list xs)), .int i => (Res.of (L2.ixN xs.length i)).bnd fun j => .ok (.nx (ρ2.set x (some (.list (xs.set j d)))))
    | _, _ => .stuck
  | .aug o i e, ρ => match ρ[i]? with
    | some (some x) => (evE Γ e ρ).bnd fun (y, ρ1) => (Res.of (binD o x y)).bnd fun d => (match d with
      | .int _ => .ok (.nx (ρ1.set i (some d)))
      | _ => .stuck)
    | _ => .stuck
  | .ex e, ρ => (evE Γ e ρ).bnd fun (_, ρ1) => .ok (.nx ρ1)
  | .app x e, ρ => (evE Γ e ρ).bnd fun (d, ρ1) => match ρ1[x]? with
    | some (some (.list xs)) => if xs.length < lim then .ok (.nx (ρ1.set x (some (.list (xs ++ [d]))))) else .stuck
    | _ => .stuck
  | .ext x e, ρ => (evE Γ e ρ).bnd fun (d, ρ1) => match ρ1[x]?, d with
    | some (some (.list xs)), .list ys => if xs.length + ys.length ≤ lim then .ok (.nx (ρ1.set x (some (.list (xs ++ ys))))) else .stuck
    | _, _ => .stuck
  | .ret e, ρ => (evE Γ e ρ).bnd fun (d, ρ1) => .ok (.rt d ρ1)
  | .ite c a b, ρ => (evT Γ c ρ).bnd fun (k, ρ1) => if k = true then execs a ρ1 else execs b ρ1
  | .for_ _ t it b, ρ => (evI Γ it ρ).bnd fun (xs, ρ1) => loopF (fun x ρ' => (Res.of (bindT t x ρ')).bnd fun ρ2 => execs b ρ2) xs ρ1
  | .whl _ c b, ρ => whlS (evT Γ c) (execs b) ρ
  | .raise c es, ρ => (evEs Γ es ρ).bnd fun (ds, ρ1) => .exc c ds ρ1
  | .nev, _ => .stuck
  | .pas, ρ => .ok (.nx ρ)
noncomputable def execs : ISs → Env → Res Flow
  | .nil, ρ => .ok (.nx ρ)
  | .cons s r, ρ => (exec s ρ).bnd fun fl => match fl with
    | .nx ρ1 => execs r ρ1
    | .rt d ρ1 => .ok (.rt d ρ1)
end
/-- a def: its slots, its parameters, which of them it may change, its body -/
structure Fn where
  n : Nat
  np : Nat
  br : List Nat
  body : ISs
def outs (br : List Nat) (ρ : Env) : List PyData := br.map fun i => (ρ[i]?.join).getD .none
/-- a list of ints -/
def intList : PyData → Bool
  | .list xs => (intsOf xs).isSome
  | _ => false
def ended (br : List Nat) : Res Flow → Res (PyData × List PyData)
  | .ok (.nx ρ) => if (outs br ρ).all intList = true then .ok (.none, outs br ρ) else .stuck
  | .ok (.rt d ρ) => if (outs br ρ).all intList = true then .ok (d, outs br ρ) else .stuck
  | .exc c xs _ => .exc c xs []
  | .stuck => .stuck
noncomputable def Fn.mng (f : Fn) : Mng := fun ds => if ds.length = f.np then ended f.br (execs Γ f.body (ds.map some ++ List.replicate (f.n - f.np) none)) else .stuck
end
end Hx

set_option Elab.async false
set_option linter.all false
set_option maxRecDepth 100000
set_option maxHeartbeats 4000000
/-! T0: what makes a tuple makes a plain one (no dict of its own): such a tuple is kept as a known object. -/
namespace Hx
open PySem PySem.Spec PyProof.Rows L2
/-- a known plain tuple stands at a -/
def PlT (H : Hp) (a : Addr) (xs : List V) : Prop := ∃ o : Obj, o.dict = none ∧ H a = some (.frz o (.tup xs))
theorem PlT.rd {H : Hp} {a : Addr} {xs : List V} (h : PlT H a xs) : Rd H a (.tup xs) := h.elim fun o h => .inr ⟨o, h.2⟩
/-- Q of a new plain tuple of xs -/
def NewT (H : Hp) (xs : List V) (Q : VK) : Prop := ∀ p o, H p = none → o.dict = none → Q (.ref p) (upd H p (.frz o (.tup xs)))
section
variable {X : Cx} {pins : List (Addr × Obj)} {σ : L2.St} {H : Hp} {s : Shared} {Q : VK}
theorem plain_new (I : Inv X pins σ H s) {xs : List V} {its : List Value} {p t' : Nat} {h' : Heap} (r : Vals xs its) (hz : xs.length ≤ sizeLine) (hp : s.heap.objs.size ≤ p) (k : ∀ b u, s.heap.get? b = some u → h'.get? b = some u)
    (e : h'.get? p = some { cls := .type "tuple", data := .seq its.toArray }) (q : NewT H xs Q) : EP X pins σ Q (.ref p) { s with heap := h', toks := t' } :=
  ⟨.ref p, _, I.laid (o := .frz _ (.tup xs)) k hp ⟨e, hz, its, r, _, e, rfl, _, rfl⟩, rfl, q p _ (I.hok.fresh hp) rfl⟩
/-- (a, b, ..) -/
def tTupP (t : TA) : TE := fun σ H Q => t σ H fun xs H1 => xs.length ≤ sizeLine ∧ NewT H1 xs Q
theorem pe_tupP {es : List Expr} {t : TA} {k : Nat} {pos : Pos} (h : PA X es t) : PE X (.Tuple es k pos) (tTupP t) :=
  ⟨fun pins s σ H Q I hq => wpAny_Tuple_spliced (thn (h.run pos pins s σ H _ I hq) fun us s1 ⟨xs, H1, I1, r, z, q⟩ => ⟨r.length ▸ z, plain_new (t' := s1.toks) I1 r z (Nat.le_refl _) (fun b u e => Heap.get?_push_of_some _ e) (Heap.get?_push_size _ rfl) q⟩)⟩
/-- t + u -/
def rCatP (K : PySem.W.Frag) : R2 := fun x y H Q => ∃ a b xs ys, x = .ref a ∧ y = .ref b ∧ SqT K H a xs ∧ SqT K H b ys ∧ xs.length + ys.length ≤ sizeLine ∧ (xs = [] → Q (.ref b) H) ∧ (xs ≠ [] → ys = [] → Q (.ref a) H) ∧ (xs ≠ [] → ys ≠ [] → NewT H (xs ++ ys) Q)
theorem op_catP : OpR X (binaryOp .Add) (rCatP X.K) := by
  rintro pins s σ H x y v u Q I rx ry ⟨a, b, xs, ys, rfl, rfl, ta, tb, hz, q0, q1, q2⟩
  cases rx
  cases ry
  obtain ⟨as, ra, pa, _⟩ := I.tuple ta
  obtain ⟨bs, rb, pb, _⟩ := I.tuple tb
  cases as with
  | nil =>
    cases ra
    exact L2.cat_tup0 pa pb ⟨.ref b, H, I, rfl, q0 rfl⟩
  | cons a1 as =>
    have hx : xs ≠ [] := fun z => by rw [z] at ra; cases ra
    refine HT.cat_tup pa pb (by simp) (fun z => ⟨.ref a, H, I, rfl, q1 hx (rb.nil_iff.mp z)⟩) (fun z => ?_) (by rw [← ra.length, ← rb.length]; exact hz)
    exact plain_new (t' := s.toks) I (ra.append rb) (by rw [List.length_append]; exact hz) (Nat.le_refl _) (fun _ _ e => Heap.get?_push_of_some _ e) (Heap.get?_push_size _ rfl) (q2 hx fun w => z (rb.nil_iff.mpr w))
/-- tuple(xs) -/
theorem call_tupleP : CallR X (.type "tuple") (fun vs H Q => ∃ p ys, vs = [.ref p] ∧ ((SqL X.K H p ys ∧ NewT H ys Q) ∨ (SqT X.K H p ys ∧ Q (.ref p) H))) := by
  rintro pins s σ H vs us Q I r ⟨p, ys, rfl, h⟩
  obtain ⟨u, rfl, ru⟩ := vals1 r
  cases ru
  rcases h with ⟨sq, q⟩ | ⟨sq, q⟩
  · obtain ⟨its, ri, pl, hz⟩ := I.list sq
    have n := ri.length
    refine call_tuple_list pl.isList (fun h' keep => ?_) (by simp only [List.size_toArray] <;> omega)
    exact plain_new (s := { s with heap := h' }) (t' := s.toks) (I.kept (t' := s.toks) keep) ri hz (Nat.le_refl _) (fun _ _ e => Heap.get?_push_of_some _ e) (Heap.get?_push_size _ rfl) q
  · obtain ⟨its, _, pl, _⟩ := I.tuple sq
    exact call_tuple_same pl ⟨.ref p, H, I, rfl, q⟩
/-- t[lo:hi] -/
def rSlP (K : PySem.W.Frag) : V → Option Int → Option Int → Hp → VK → Prop := fun x lo hi H Q => ∃ a xs, x = .ref a ∧ SqT K H a xs ∧
  (HT.sIx xs.length 0 lo = 0 ∧ HT.sIx xs.length xs.length hi = xs.length → Q (.ref a) H) ∧ (¬ (HT.sIx xs.length 0 lo = 0 ∧ HT.sIx xs.length xs.length hi = xs.length) → NewT H (cutV xs lo hi) Q)
theorem sl_tupP : SlR X (rSlP X.K) := by
  rintro pins s σ H x v vl vu lo hi sl Q I rx hs pl pu ⟨a, xs, rfl, sq, q1, q2⟩
  cases rx
  obtain ⟨its, r, tt, hz⟩ := I.tuple sq
  have n : its.toArray.size = xs.length := by rw [List.size_toArray, r.length]
  refine ⟨"tuple", _, PyProof.Rows.slot_tuple_getitem.lookup, tt.typeIs, ?_⟩
  rcases Classical.em (HT.sIx xs.length 0 lo = 0 ∧ HT.sIx xs.length xs.length hi = xs.length) with hw | hw
  · exact L2.getItem_tuple_whole tt hs pl pu (n ▸ hw) ⟨.ref a, H, I, rfl, q1 hw⟩
  · refine HT.getItem_tuple_cut tt hs pl pu (n ▸ hw) ?_ (n ▸ hz)
    rw [n]
    exact plain_new (t' := s.toks) I ((r.drop (HT.sIx xs.length 0 lo)).take (HT.sIx xs.length xs.length hi - HT.sIx xs.length 0 lo)) (Nat.le_trans (cutV_length xs lo hi) hz) (Nat.le_refl _) (fun _ _ e => Heap.get?_push_of_some _ e) (Heap.get?_push_size _ rfl) (q2 hw)
/-- t * k, k from 2 up -/
def rRepP (K : PySem.W.Frag) : R2 := fun x y H Q => ∃ l k xs, x = .ref l ∧ y = .int k ∧ SqT K H l xs ∧ xs ≠ [] ∧ 2 ≤ k ∧ k ≤ 1000 ∧ xs.length ≤ 1000 ∧ NewT H (List.replicate k.toNat xs).flatten Q
theorem op_repP : OpR X (binaryOp .Mult) (rRepP X.K) := by
  rintro pins s σ H x y v u Q I rx ry ⟨l, k, xs, rfl, rfl, sq, hn, k2, k1000, hl, q⟩
  cases rx
  obtain ⟨t, rfl⟩ := ry
  obtain ⟨its, r, ⟨⟨c, dd, dt, sl⟩, ho, hc, n, hd⟩, _⟩ := I.tuple sq
  cases (show c = _ from hc)
  cases (show dt = _ from hd)
  have len := r.length
  have sz := sizeLine_eq
  have bound : ∀ z : Nat, z = xs.length → k.toNat * z ≤ 1000000 := fun z e => by
    have := Nat.mul_le_mul (show k.toNat ≤ 1000 by omega) (show z ≤ 1000 by omega)
    omega
  have cast : (its.toArray.size : Int) * k = ((k.toNat * xs.length : Nat) : Int) := by
    rw [List.size_toArray, ← len, Int.natCast_mul, Int.toNat_of_nonneg (by omega), Int.mul_comm]
  have ne0 : its.toArray.isEmpty = false := by
    cases its with
    | nil => exact absurd (List.eq_nil_of_length_eq_zero len) hn
    | cons a b => rfl
  have far : (k == 1) = false := beq_eq_false_iff_ne.mpr (by omega)
  have mul := tuple_mulW l its.toArray n dd sl k t (by rw [decide_eq_false (by omega), decide_eq_false (by omega)]; rfl) (by rw [ne0, far]; rfl) (by rw [ne0, decide_eq_false (by omega)]; rfl)
    (by have := bound _ rfl; rw [cast]; omega) (by unfold Builtin.Tuple.tupleTooMany; rw [cast, sz]; have := bound _ rfl; exact decide_eq_false (by omega)) (by rw [size_rep, List.size_toArray, PyProof.Rows.lm_len_rep_flat, ← len, sz]; have := bound _ rfl; omega)
  refine wpAny_binaryOp_repeat_ref (T := "tuple") (U := "int") (by decide) ⟨_, ho, rfl⟩ (fun _ => typeIs_int _ k t) noFill_tuple_mul F.fills_int_mul F.slot_int_rmul repeat_tuple F.slot_int_index.lookup
    (call_meets F.slot_int_rmul (typeIs_int s k t) F.entry_int_rmul (F.args_int_rmul_2 _ _) (int_rmul_tuple k t l its.toArray n dd sl) ⟨ho, rfl, ⟨_, ho, rfl⟩, call_meets PySem.F.slot_tuple_mul ⟨_, ho, rfl⟩ PySem.F.entry_tuple_mul (PySem.F.args_tuple_mul_2 _ _) mul ⟨ho, ?_⟩⟩)
  rw [size_rep]
  exact plain_new (t' := s.toks) I (r.rep k.toNat) (by rw [PyProof.Rows.lm_len_rep_flat, sz]; have := bound _ rfl; omega) (Nat.le_refl _) (fun _ _ e => Heap.get?_push_of_some _ e) (Heap.get?_push_size _ rfl) q
/-- tuple(range(..)) -/
def tTupRgP (te : L2.St → Hp → (Int → Int → Hp → Prop) → Prop) : TE := fun σ H Q => te σ H fun a b H1 => RgOk a b ∧ NewT H1 (rgV a b) Q
theorem pe_tupRgP {p pos : Pos} {e : Expr} {te : L2.St → Hp → (Int → Int → Hp → Prop) → Prop} (hc : X.calm = true) (hg : Gl X "tuple") (hm : X.mg "tuple" = none) (he : PRg X e te) (na : starEach [e] X.env = (false, eval e X.env) :: starEach [] X.env := by rfl) :
    PE X (.Call (.Name "tuple" p) [e] [] pos) (tTupRgP te) := by
  refine ⟨fun pins s σ H Q I h => Call_ (ld_blt I hg hm boot_tuple (PyProof.Rows.callWith_type1 (args_cons (thn (he pins s σ H _ I h) ?_) na) na))⟩
  rintro x s1 ⟨r, a, b, t, u, v, H1, rfl, hr, I1, ⟨b1, b2, b3, b4, b5⟩, q⟩
  refine args_nil (call_tuple_range (n := (b - a).toNat) (I1.ok.hd hc) hr (small_one b1 b2 b3 b4) (rangeSize_nat a b) b5 fun h' tk acc keep hin => ?_)
  have I2 : Inv X pins σ H1 { s1 with heap := h', toks := tk } := I1.kept keep
  exact plain_new (s := { s1 with heap := h', toks := tk }) (t' := tk) I2 (its := acc.toList) (vals_rg hin) (by rw [rgV_length, sizeLine_eq]; omega) (Nat.le_refl _) (fun _ _ e => Heap.get?_push_of_some _ e) (by rw [Array.toArray_toList]; exact Heap.get?_push_size _ rfl) q
/-- the object of a known plain tuple: no dict -/
theorem PlT.obj (I : Inv X pins σ H s) {a : Addr} {xs : List V} (h : PlT H a xs) : ∃ o, s.heap.get? a = some o ∧ o.dict = none := by
  obtain ⟨o, hd, ha⟩ := h
  have : ObjOk X.prog X.w H s.heap a (.frz o (.tup xs)) := I.hok a _ ha
  exact ⟨o, this.1, hd⟩
end
end Hx

set_option Elab.async false
set_option linter.all false
set_option maxRecDepth 100000
set_option maxHeartbeats 4000000
/-! H2: how a value of the language lies in the abstract heap; what a def's slots hold. -/
namespace Hx
open PySem L2

def keyD : PyData → Option Key
  | .int i => some (.inl i)
  | .str s => some (.inr s)
  | _ => none
/-- a list that is read: tracked, locked, or an exact list of the module's -/
def LL (K : PySem.W.Frag) (H : Hp) (a : Addr) (xs : List V) : Prop :=
  Rd H a (.lst xs) ∨ ∃ (its : List Value) (n : Nat), K.lookup a = some { cls := .type "list", data := .seq its.toArray n } ∧ its.length ≤ sizeLine ∧ Vals xs its
theorem LL.sq {K : PySem.W.Frag} {H : Hp} {a : Addr} {xs : List V} (h : LL K H a xs) : SqL K H a xs := by
  rcases h with h | ⟨its, n, hk, hz, r⟩
  · exact .inl h
  · exact .inr ⟨_, its.toArray, n, hk, rfl, rfl, rfl, by simpa using hz, by simpa using r⟩
theorem LL.of {K : PySem.W.Frag} {H : Hp} {a : Addr} {xs : List V} (h : H a = some (.lst xs)) : LL K H a xs := .inl (.inl h)
/-- .. that stands outside A, if it is tracked -/
def LLA (K : PySem.W.Frag) (A : Addr → Prop) (H : Hp) (a : Addr) (xs : List V) : Prop :=
  (Rd H a (.lst xs) ∧ ¬ A a) ∨ ∃ (its : List Value) (n : Nat), K.lookup a = some { cls := .type "list", data := .seq its.toArray n } ∧ its.length ≤ sizeLine ∧ Vals xs its
def TTA (K : PySem.W.Frag) (A : Addr → Prop) (H : Hp) (a : Addr) (xs : List V) : Prop :=
  (PlT H a xs ∧ ¬ A a) ∨ ∃ (o : Obj) (its : Array Value) (n : Nat), K.lookup a = some o ∧ o.cls = .type "tuple" ∧ o.dict = none ∧ o.data = .seq its n ∧ its.size ≤ sizeLine ∧ Vals xs its.toList
theorem LLA.ll {K : PySem.W.Frag} {A : Addr → Prop} {H : Hp} {a : Addr} {xs : List V} (h : LLA K A H a xs) : LL K H a xs := h.imp And.left id
theorem LLA.sq {K : PySem.W.Frag} {A : Addr → Prop} {H : Hp} {a : Addr} {xs : List V} (h : LLA K A H a xs) : SqL K H a xs := h.ll.sq
theorem LLA.of {K : PySem.W.Frag} {A : Addr → Prop} {H : Hp} {a : Addr} {xs : List V} (h : H a = some (.lst xs)) (n : ¬ A a) : LLA K A H a xs := .inl ⟨.inl h, n⟩
theorem TTA.sq {K : PySem.W.Frag} {A : Addr → Prop} {H : Hp} {a : Addr} {xs : List V} (h : TTA K A H a xs) : SqT K H a xs := h.imp (fun z => z.1.rd) fun ⟨o, its, n, h1, h2, _, h3⟩ => ⟨o, its, n, h1, h2, h3⟩
theorem TTA.of {K : PySem.W.Frag} {A : Addr → Prop} {H : Hp} {a : Addr} {xs : List V} {o : Obj} (hd : o.dict = none) (h : H a = some (.frz o (.tup xs))) (n : ¬ A a) : TTA K A H a xs := .inl ⟨⟨o, hd, h⟩, n⟩
theorem LLA.mono {K : PySem.W.Frag} {A A' : Addr → Prop} {H : Hp} {a : Addr} {xs : List V} (k : ∀ a, A' a → A a) (h : LLA K A H a xs) : LLA K A' H a xs := h.imp (fun h => ⟨h.1, fun z => h.2 (k a z)⟩) id
theorem TTA.mono {K : PySem.W.Frag} {A A' : Addr → Prop} {H : Hp} {a : Addr} {xs : List V} (k : ∀ a, A' a → A a) (h : TTA K A H a xs) : TTA K A' H a xs := h.imp (fun h => ⟨h.1, fun z => h.2 (k a z)⟩) id
theorem rd_ne {H : Hp} {a D : Addr} {u : HO} (h : Rd H a u) (hD : H D = none) : a ≠ D := fun e => by
  subst e
  rcases h with h | ⟨_, h⟩ <;> (rw [hD] at h; cases h)
theorem LLA.fresh {K : PySem.W.Frag} {A : Addr → Prop} {H : Hp} {a D : Addr} {xs : List V} (hD : H D = none) (h : LLA K A H a xs) : LLA K (fun b => A b ∨ b = D) H a xs := h.imp (fun h => ⟨h.1, fun z => z.elim h.2 (rd_ne h.1 hD)⟩) id
theorem TTA.fresh {K : PySem.W.Frag} {A : Addr → Prop} {H : Hp} {a D : Addr} {xs : List V} (hD : H D = none) (h : TTA K A H a xs) : TTA K (fun b => A b ∨ b = D) H a xs := h.imp (fun h => ⟨h.1, fun z => z.elim h.2 (rd_ne h.1.rd hD)⟩) id
section
variable (K : PySem.W.Frag)
mutual
/-- v holds d, and no list or dict within stands in A -/
def RepD (A : Addr → Prop) (H : Hp) : PyData → V → Prop
  | .none, v => v = .non
  | .bool b, v => v = .bl b
  | .int i, v => v = .int i
  | .str s, v => v = .str s
  | .list ds, v => ∃ a vs, v = .ref a ∧ LLA K A H a vs ∧ RepA A H ds vs
  | .tuple ds, v => ∃ a vs, v = .ref a ∧ TTA K A H a vs ∧ RepA A H ds vs
  | .dict kvs, v => ∃ a vs, v = .ref a ∧ (Rd H a (.dK vs) ∧ ¬ A a) ∧ RepK A H kvs vs
def RepA (A : Addr → Prop) (H : Hp) : List PyData → List V → Prop
  | [], vs => vs = []
  | d :: ds, vs => ∃ v r, vs = v :: r ∧ RepD A H d v ∧ RepA A H ds r
def RepK (A : Addr → Prop) (H : Hp) : List (PyData × PyData) → List (Key × V) → Prop
  | [], vs => vs = []
  | (k, d) :: kvs, vs => ∃ kk v r, vs = (kk, v) :: r ∧ keyD k = some kk ∧ RepD A H d v ∧ RepK A H kvs r
end
end
/-- what H knows outside A is kept -/
def KeepA (A : Addr → Prop) (H H' : Hp) : Prop := ∀ a o, H a = some o → ¬ A a → H' a = some o
section
variable {K : PySem.W.Frag} {A A' : Addr → Prop} {H H' : Hp}
theorem KeepA.refl : KeepA A H H := fun _ _ h _ => h
theorem KeepA.trans {H1 H2 : Hp} (a : KeepA A H H1) (b : KeepA A H1 H2) : KeepA A H H2 := fun p o h n => b p o (a p o h n) n
theorem KeepA.rd (k : KeepA A H H') {a : Addr} {u : HO} (n : ¬ A a) (h : Rd H a u) : Rd H' a u := by
  rcases h with h | ⟨o, h⟩
  · exact .inl (k a _ h n)
  · exact .inr ⟨o, k a _ h n⟩
theorem KeepA.ll (k : KeepA A H H') {a : Addr} {xs : List V} (h : LLA K A H a xs) : LLA K A H' a xs := h.imp (fun h => ⟨k.rd h.2 h.1, h.2⟩) id
theorem KeepA.sqT (k : KeepA A H H') {a : Addr} {xs : List V} (h : TTA K A H a xs) : TTA K A H' a xs := h.imp (fun h => ⟨h.1.elim fun o z => ⟨o, z.1, k a _ z.2 h.2⟩, h.2⟩) id
mutual
theorem RepD.keep (k : KeepA A H H') : ∀ (d : PyData) (v : V), RepD K A H d v → RepD K A H' d v
  | .none, _, h => by simpa only [RepD] using h
  | .bool _, _, h => by simpa only [RepD] using h
  | .int _, _, h => by simpa only [RepD] using h
  | .str _, _, h => by simpa only [RepD] using h
  | .list ds, v, h => by
    simp only [RepD] at h ⊢
    obtain ⟨a, vs, e, s, r⟩ := h
    exact ⟨a, vs, e, k.ll s, RepA.keep k ds vs r⟩
  | .tuple ds, v, h => by
    simp only [RepD] at h ⊢
    obtain ⟨a, vs, e, s, r⟩ := h
    exact ⟨a, vs, e, k.sqT s, RepA.keep k ds vs r⟩
  | .dict kvs, v, h => by
    simp only [RepD] at h ⊢
    obtain ⟨a, vs, e, s, r⟩ := h
    exact ⟨a, vs, e, ⟨k.rd s.2 s.1, s.2⟩, RepK.keep k kvs vs r⟩
theorem RepA.keep (k : KeepA A H H') : ∀ (ds : List PyData) (vs : List V), RepA K A H ds vs → RepA K A H' ds vs
  | [], _, h => by simpa only [RepA] using h
  | d :: ds, vs, h => by
    simp only [RepA] at h ⊢
    obtain ⟨v, r, e, h1, h2⟩ := h
    exact ⟨v, r, e, RepD.keep k d v h1, RepA.keep k ds r h2⟩
theorem RepK.keep (k : KeepA A H H') : ∀ (kvs : List (PyData × PyData)) (vs : List (Key × V)), RepK K A H kvs vs → RepK K A H' kvs vs
  | [], _, h => by simpa only [RepK] using h
  | (q, d) :: kvs, vs, h => by
    simp only [RepK] at h ⊢
    obtain ⟨kk, v, r, e, h0, h1, h2⟩ := h
    exact ⟨kk, v, r, e, h0, RepD.keep k d v h1, RepK.keep k kvs r h2⟩
end
mutual
theorem RepD.mono (k : ∀ a, A' a → A a) : ∀ (d : PyData) (v : V), RepD K A H d v → RepD K A' H d v
  | .none, _, h => by simpa only [RepD] using h
  | .bool _, _, h => by simpa only [RepD] using h
  | .int _, _, h => by simpa only [RepD] using h
  | .str _, _, h => by simpa only [RepD] using h
  | .list ds, v, h => by
    simp only [RepD] at h ⊢
    obtain ⟨a, vs, e, s, r⟩ := h
    exact ⟨a, vs, e, s.mono k, RepA.mono k ds vs r⟩
  | .tuple ds, v, h => by
    simp only [RepD] at h ⊢
    obtain ⟨a, vs, e, s, r⟩ := h
    exact ⟨a, vs, e, s.mono k, RepA.mono k ds vs r⟩
  | .dict kvs, v, h => by
    simp only [RepD] at h ⊢
    obtain ⟨a, vs, e, s, r⟩ := h
    exact ⟨a, vs, e, ⟨s.1, fun z => s.2 (k a z)⟩, RepK.mono k kvs vs r⟩
theorem RepA.mono (k : ∀ a, A' a → A a) : ∀ (ds : List PyData) (vs : List V), RepA K A H ds vs → RepA K A' H ds vs
  | [], _, h => by simpa only [RepA] using h
  | d :: ds, vs, h => by
    simp only [RepA] at h ⊢
    obtain ⟨v, r, e, h1, h2⟩ := h
    exact ⟨v, r, e, RepD.mono k d v h1, RepA.mono k ds r h2⟩
theorem RepK.mono (k : ∀ a, A' a → A a) : ∀ (kvs : List (PyData × PyData)) (vs : List (Key × V)), RepK K A H kvs vs → RepK K A' H kvs vs
  | [], _, h => by simpa only [RepK] using h
  | (q, d) :: kvs, vs, h => by
    simp only [RepK] at h ⊢
    obtain ⟨kk, v, r, e, h0, h1, h2⟩ := h
    exact ⟨kk, v, r, e, h0, RepD.mono k d v h1, RepK.mono k kvs r h2⟩
end
mutual
theorem RepD.fresh {D : Addr} (k : H D = none) : ∀ (d : PyData) (v : V), RepD K A H d v → RepD K (fun b => A b ∨ b = D) H d v
  | .none, _, h => by simpa only [RepD] using h
  | .bool _, _, h => by simpa only [RepD] using h
  | .int _, _, h => by simpa only [RepD] using h
  | .str _, _, h => by simpa only [RepD] using h
  | .list ds, v, h => by
    simp only [RepD] at h ⊢
    obtain ⟨a, vs, e, s, r⟩ := h
    exact ⟨a, vs, e, s.fresh k, RepA.fresh k ds vs r⟩
  | .tuple ds, v, h => by
    simp only [RepD] at h ⊢
    obtain ⟨a, vs, e, s, r⟩ := h
    exact ⟨a, vs, e, s.fresh k, RepA.fresh k ds vs r⟩
  | .dict kvs, v, h => by
    simp only [RepD] at h ⊢
    obtain ⟨a, vs, e, s, r⟩ := h
    exact ⟨a, vs, e, ⟨s.1, fun z => z.elim s.2 (rd_ne s.1 k)⟩, RepK.fresh k kvs vs r⟩
theorem RepA.fresh {D : Addr} (k : H D = none) : ∀ (ds : List PyData) (vs : List V), RepA K A H ds vs → RepA K (fun b => A b ∨ b = D) H ds vs
  | [], _, h => by simpa only [RepA] using h
  | d :: ds, vs, h => by
    simp only [RepA] at h ⊢
    obtain ⟨v, r, e, h1, h2⟩ := h
    exact ⟨v, r, e, RepD.fresh k d v h1, RepA.fresh k ds r h2⟩
theorem RepK.fresh {D : Addr} (k : H D = none) : ∀ (kvs : List (PyData × PyData)) (vs : List (Key × V)), RepK K A H kvs vs → RepK K (fun b => A b ∨ b = D) H kvs vs
  | [], _, h => by simpa only [RepK] using h
  | (q, d) :: kvs, vs, h => by
    simp only [RepK] at h ⊢
    obtain ⟨kk, v, r, e, h0, h1, h2⟩ := h
    exact ⟨kk, v, r, e, h0, RepD.fresh k d v h1, RepK.fresh k kvs r h2⟩
end
theorem RepA.length : ∀ {ds : List PyData} {vs : List V}, RepA K A H ds vs → ds.length = vs.length
  | [], _, h => by
    simp only [RepA] at h
    subst h
    rfl
  | d :: ds, vs, h => by
    simp only [RepA] at h
    obtain ⟨v, r, e, _, h2⟩ := h
    rw [e, List.length_cons, List.length_cons, RepA.length h2]
theorem RepA.nil : RepA K A H [] [] := by simp only [RepA]
theorem RepA.cons {d : PyData} {v : V} {ds : List PyData} {vs : List V} (h : RepD K A H d v) (r : RepA K A H ds vs) : RepA K A H (d :: ds) (v :: vs) := by
  simp only [RepA]
  exact ⟨v, vs, rfl, h, r⟩
theorem RepA.get : ∀ {ds : List PyData} {vs : List V} {i : Nat} {d : PyData}, RepA K A H ds vs → ds[i]? = some d → ∃ v, vs[i]? = some v ∧ RepD K A H d v
  | [], _, i, d, _, e => by simp at e
  | x :: ds, vs, i, d, h, e => by
    simp only [RepA] at h
    obtain ⟨v, r, e1, h1, h2⟩ := h
    subst e1
    cases i with
    | zero =>
      have : x = d := by simpa using e
      subst this
      exact ⟨v, by simp, h1⟩
    | succ i =>
      obtain ⟨u, e2, h3⟩ := RepA.get (i := i) h2 (by simpa using e)
      exact ⟨u, by simpa using e2, h3⟩
theorem RepA.getV : ∀ {ds : List PyData} {vs : List V} {i : Nat} {v : V}, RepA K A H ds vs → vs[i]? = some v → ∃ d, ds[i]? = some d ∧ RepD K A H d v
  | [], _, i, d, h, e => by
    simp only [RepA] at h
    subst h
    simp at e
  | x :: ds, vs, i, d, h, e => by
    simp only [RepA] at h
    obtain ⟨v, r, e1, h1, h2⟩ := h
    subst e1
    cases i with
    | zero =>
      have : v = d := by simpa using e
      subst this
      exact ⟨x, by simp, h1⟩
    | succ i =>
      obtain ⟨u, e2, h3⟩ := RepA.getV (i := i) h2 (by simpa using e)
      exact ⟨u, by simpa using e2, h3⟩
theorem RepA.append : ∀ {ds es : List PyData} {vs ws : List V}, RepA K A H ds vs → RepA K A H es ws → RepA K A H (ds ++ es) (vs ++ ws)
  | [], _, _, _, h, q => by
    simp only [RepA] at h
    subst h
    exact q
  | d :: ds, es, vs, ws, h, q => by
    simp only [RepA] at h
    obtain ⟨v, r, e, h1, h2⟩ := h
    subst e
    exact RepA.cons h1 (RepA.append h2 q)
theorem RepA.of_get : ∀ {ds : List PyData} {vs : List V}, ds.length = vs.length → (∀ (i : Nat) d v, ds[i]? = some d → vs[i]? = some v → RepD K A H d v) → RepA K A H ds vs
  | [], [], _, _ => RepA.nil
  | d :: ds, v :: vs, hl, h => RepA.cons (h 0 d v (by simp) (by simp)) (RepA.of_get (by simpa using hl) fun i d v e1 e2 => h (i + 1) d v (by simpa using e1) (by simpa using e2))
  | [], _ :: _, hl, _ => by simp at hl
  | _ :: _, [], hl, _ => by simp at hl
theorem RepA.take {ds : List PyData} {vs : List V} (h : RepA K A H ds vs) (n : Nat) : RepA K A H (ds.take n) (vs.take n) := by
  refine RepA.of_get (by simp [h.length]) fun i d v e1 e2 => ?_
  rw [List.getElem?_take] at e1 e2
  split at e1
  · rename_i hi
    rw [if_pos hi] at e2
    obtain ⟨u, e3, h3⟩ := h.get e1
    rw [e2] at e3; cases e3
    exact h3
  · cases e1
theorem RepA.drop {ds : List PyData} {vs : List V} (h : RepA K A H ds vs) (n : Nat) : RepA K A H (ds.drop n) (vs.drop n) := by
  refine RepA.of_get (by simp [h.length]) fun i d v e1 e2 => ?_
  rw [List.getElem?_drop] at e1 e2
  obtain ⟨u, e3, h3⟩ := h.get e1
  rw [e2] at e3; cases e3
  exact h3
theorem RepA.set {ds : List PyData} {vs : List V} {d : PyData} {v : V} (h : RepA K A H ds vs) (q : RepD K A H d v) (n : Nat) : RepA K A H (ds.set n d) (vs.set n v) := by
  refine RepA.of_get (by simp [h.length]) fun i x u e1 e2 => ?_
  by_cases hi : n = i
  · subst hi
    by_cases hl : n < ds.length
    · rw [List.getElem?_set_self hl] at e1
      rw [List.getElem?_set_self (by rw [← h.length]; exact hl)] at e2
      cases e1; cases e2
      exact q
    · rw [List.getElem?_eq_none (by simpa using hl)] at e1; cases e1
  · rw [List.getElem?_set_ne hi] at e1 e2
    obtain ⟨w, e3, h3⟩ := h.get e1
    rw [e2] at e3; cases e3
    exact h3
theorem RepA.ints : ∀ {ns : List Int} {vs : List V}, RepA K A H (ns.map .int) vs → vs = ns.map V.int
  | [], _, h => by simpa only [List.map_nil, RepA] using h
  | n :: ns, vs, h => by
    simp only [List.map_cons, RepA, RepD] at h
    obtain ⟨v, r, e, h1, h2⟩ := h
    rw [e, h1, List.map_cons, RepA.ints h2]
theorem RepA.ofInts : ∀ (ns : List Int), RepA K A H (ns.map .int) (ns.map V.int)
  | [] => RepA.nil
  | n :: ns => RepA.cons (by simp only [RepD]) (RepA.ofInts ns)
theorem RepA.bools : ∀ {ns : List Bool} {vs : List V}, RepA K A H (ns.map .bool) vs → vs = ns.map V.bl
  | [], _, h => by simpa only [List.map_nil, RepA] using h
  | n :: ns, vs, h => by
    simp only [List.map_cons, RepA, RepD] at h
    obtain ⟨v, r, e, h1, h2⟩ := h
    rw [e, h1, List.map_cons, RepA.bools h2]
end
theorem intsOf_eq : ∀ {ds : List PyData} {ns : List Int}, intsOf ds = some ns → ds = ns.map .int
  | [], ns, h => by
    simp only [intsOf, Option.some.injEq] at h
    rw [← h]; rfl
  | .int i :: r, ns, h => by
    simp only [intsOf, Option.map_eq_some_iff] at h
    obtain ⟨m, h1, h2⟩ := h
    rw [← h2, intsOf_eq h1]; rfl
  | .none :: _, _, h => by simp [intsOf] at h
  | .bool _ :: _, _, h => by simp [intsOf] at h
  | .str _ :: _, _, h => by simp [intsOf] at h
  | .list _ :: _, _, h => by simp [intsOf] at h
  | .tuple _ :: _, _, h => by simp [intsOf] at h
  | .dict _ :: _, _, h => by simp [intsOf] at h
theorem boolsOf_eq : ∀ {ds : List PyData} {ns : List Bool}, boolsOf ds = some ns → ds = ns.map .bool
  | [], ns, h => by
    simp only [boolsOf, Option.some.injEq] at h
    rw [← h]; rfl
  | .bool i :: r, ns, h => by
    simp only [boolsOf, Option.map_eq_some_iff] at h
    obtain ⟨m, h1, h2⟩ := h
    rw [← h2, boolsOf_eq h1]; rfl
  | .none :: _, _, h => by simp [boolsOf] at h
  | .int _ :: _, _, h => by simp [boolsOf] at h
  | .str _ :: _, _, h => by simp [boolsOf] at h
  | .list _ :: _, _, h => by simp [boolsOf] at h
  | .tuple _ :: _, _, h => by simp [boolsOf] at h
  | .dict _ :: _, _, h => by simp [boolsOf] at h
end Hx

set_option Elab.async false
set_option linter.all false
set_option maxRecDepth 100000
set_option maxHeartbeats 4000000
/-! H3: what a def's slots hold (Rep), what an expression, a test, a statement of the language promises over HandS. -/
namespace Hx
open PySem PySem.Spec PyProof.Rows L2

/-- what is given at a def's entry: addresses that others change, the heap, the slots (with their objects) that it changes for its caller -/
structure Zone where
  M : Addr → Prop
  H : Hp
  B : List (Nat × Addr)
def At (σ : L2.St) (i : Nat) (a : Addr) : Prop := σ[i]? = some (some (V.ref a))
/-- the objects that may change, but those of the slots al -/
def Av (Z : Zone) (G al : List Nat) (σ : L2.St) : Addr → Prop := fun a => Z.M a ∨ ∃ i, i ∈ G ∧ i ∉ al ∧ At σ i a
theorem Av.mono {Z : Zone} {G al al' : List Nat} {σ : L2.St} (h : ∀ i ∈ al, i ∈ al') {a : Addr} (x : Av Z G al' σ a) : Av Z G al σ a := by
  rcases x with x | ⟨i, h1, h2, h3⟩
  · exact .inl x
  · exact .inr ⟨i, h1, fun z => h2 (h i z), h3⟩

structure Rep (K : PySem.W.Frag) (Z : Zone) (G : List Nat) (ρ : Env) (σ : L2.St) (H : Hp) : Prop where
  len : σ.length = ρ.length
  val : ∀ i d, ρ[i]? = some (some d) → i ∉ G → ∃ v, σ[i]? = some (some v) ∧ RepD K (Av Z G [] σ) H d v
  own : ∀ i, i ∈ G → ∃ p xs vs, ρ[i]? = some (some (.list xs)) ∧ At σ i p ∧ H p = some (.lst vs) ∧ RepA K (Av Z G [] σ) H xs vs
  dis : ∀ i j p, i ∈ G → j ∈ G → At σ i p → At σ j p → i = j
  m0 : ∀ i p, i ∈ G → At σ i p → ¬ Z.M p
  fr0 : ∀ i p, i ∈ G → At σ i p → Z.H p = none ∨ (i, p) ∈ Z.B
  byr : ∀ i p, (i, p) ∈ Z.B → i ∈ G ∧ At σ i p
  keep : ∀ a o, Z.H a = some o → (∀ i, (i, a) ∉ Z.B) → H a = some o
  m1 : ∀ a, Z.M a → ∃ o, H a = some o

/-- like RepD; a list's (a dict's) own address avoids A, all within (and a tuple itself) avoids B -/
def RepT (K : PySem.W.Frag) (A B : Addr → Prop) (H : Hp) : PyData → V → Prop
  | .list ds, v => ∃ a vs, v = .ref a ∧ LLA K A H a vs ∧ RepA K B H ds vs
  | .dict kvs, v => ∃ a vs, v = .ref a ∧ (Rd H a (.dK vs) ∧ ¬ A a) ∧ RepK K B H kvs vs
  | .tuple ds, v => RepD K B H (.tuple ds) v
  | .none, v => v = .non
  | .bool b, v => v = .bl b
  | .int i, v => v = .int i
  | .str s, v => v = .str s
/-- a new list -/
def Frsh (K : PySem.W.Frag) (B : Addr → Prop) (H H' : Hp) (d : PyData) (v : V) : Prop := ∃ p xs vs, d = .list xs ∧ v = .ref p ∧ H p = none ∧ H' p = some (.lst vs) ∧ RepA K (fun a => B a ∨ a = p) H' xs vs
/-- what is kept where the slots md may have changed -/
def Kp (md : List Nat) (σ : L2.St) (H H' : Hp) : Prop := ∀ a o, H a = some o → (∀ i, i ∈ md → ¬ At σ i a) → H' a = some o

section
variable {K : PySem.W.Frag} {A A' B B' : Addr → Prop} {H H' : Hp}
theorem RepT.toD {d : PyData} {v : V} (hA : ∀ a, A' a → A a) (hB : ∀ a, A' a → B a) (h : RepT K A B H d v) : RepD K A' H d v := by
  cases d with
  | list ds =>
    obtain ⟨a, vs, e, s, r⟩ := h
    simp only [RepD]
    exact ⟨a, vs, e, s.mono hA, RepA.mono hB _ _ r⟩
  | dict ds =>
    obtain ⟨a, vs, e, s, r⟩ := h
    simp only [RepD]
    exact ⟨a, vs, e, ⟨s.1, fun z => s.2 (hA a z)⟩, RepK.mono hB _ _ r⟩
  | tuple ds => exact RepD.mono hB _ _ h
  | none => simp only [RepD]; exact h
  | bool b => simp only [RepD]; exact h
  | int i => simp only [RepD]; exact h
  | str x => simp only [RepD]; exact h
theorem RepT.ofD {d : PyData} {v : V} (h : RepD K A H d v) : RepT K A A H d v := by
  cases d with
  | list ds => simpa only [RepD, RepT] using h
  | dict ds => simpa only [RepD, RepT] using h
  | tuple ds => exact h
  | none => simpa only [RepD, RepT] using h
  | bool b => simpa only [RepD, RepT] using h
  | int i => simpa only [RepD, RepT] using h
  | str x => simpa only [RepD, RepT] using h
theorem RepT.mono {d : PyData} {v : V} (hA : ∀ a, A' a → A a) (hB : ∀ a, B' a → B a) (h : RepT K A B H d v) : RepT K A' B' H d v := by
  cases d with
  | list ds =>
    obtain ⟨a, vs, e, s, r⟩ := h
    exact ⟨a, vs, e, s.mono hA, RepA.mono hB _ _ r⟩
  | dict ds =>
    obtain ⟨a, vs, e, s, r⟩ := h
    exact ⟨a, vs, e, ⟨s.1, fun z => s.2 (hA a z)⟩, RepK.mono hB _ _ r⟩
  | tuple ds => exact RepD.mono hB _ _ h
  | none => exact h
  | bool b => exact h
  | int i => exact h
  | str x => exact h
theorem RepT.keep {d : PyData} {v : V} (kA : KeepA A H H') (kB : KeepA B H H') (h : RepT K A B H d v) : RepT K A B H' d v := by
  cases d with
  | list ds =>
    obtain ⟨a, vs, e, s, r⟩ := h
    exact ⟨a, vs, e, kA.ll s, RepA.keep kB _ _ r⟩
  | dict ds =>
    obtain ⟨a, vs, e, s, r⟩ := h
    exact ⟨a, vs, e, ⟨kA.rd s.2 s.1, s.2⟩, RepK.keep kB _ _ r⟩
  | tuple ds => exact RepD.keep kB _ _ h
  | none => exact h
  | bool b => exact h
  | int i => exact h
  | str x => exact h
theorem Frsh.mono {d : PyData} {v : V} (hB : ∀ a, B' a → B a) (h : Frsh K B H H' d v) : Frsh K B' H H' d v := by
  obtain ⟨p, xs, vs, e1, e2, e3, e4, r⟩ := h
  exact ⟨p, xs, vs, e1, e2, e3, e4, RepA.mono (fun a z => z.imp (hB a) id) _ _ r⟩
end
section
variable {K : PySem.W.Frag} {Z : Zone} {G md al : List Nat} {ρ : Env} {σ : L2.St} {H H1 H2 : Hp}
theorem Kp.refl : Kp md σ H H := fun _ _ h _ => h
theorem Kp.trans (a : Kp md σ H H1) (b : Kp md σ H1 H2) : Kp md σ H H2 := fun p o h n => b p o (a p o h n) n
theorem Kp.mono {md' : List Nat} (h : ∀ i ∈ md, i ∈ md') (k : Kp md σ H H1) : Kp md' σ H H1 := fun p o e n => k p o e fun i hi => n i (h i hi)
theorem Kp.keepA (k : Kp md σ H H1) (h : ∀ i ∈ md, i ∈ G ∧ i ∉ al) : KeepA (Av Z G al σ) H H1 := fun a o e n => k a o e fun i hi q => n (.inr ⟨i, (h i hi).1, (h i hi).2, q⟩)
/-- what may change stands in H -/
theorem Rep.there (R : Rep K Z G ρ σ H) {a : Addr} (x : Av Z G al σ a) : ∃ o, H a = some o := by
  rcases x with x | ⟨i, h1, _, h3⟩
  · exact R.m1 a x
  · obtain ⟨p, xs, vs, _, q, e, _⟩ := R.own i h1
    have : p = a := by
      have z := q.symm.trans h3
      simpa using z
    subst this
    exact ⟨_, e⟩
theorem Rep.new (R : Rep K Z G ρ σ H) {a : Addr} (h : H a = none) : ¬ Av Z G al σ a := fun x => by
  obtain ⟨o, e⟩ := R.there x
  rw [h] at e; cases e
/-- a heap that knows more -/
theorem Rep.grow (R : Rep K Z G ρ σ H) (k : ∀ a o, H a = some o → H1 a = some o) : Rep K Z G ρ σ H1 := by
  have kA : ∀ A : Addr → Prop, KeepA A H H1 := fun A a o e _ => k a o e
  refine ⟨R.len, fun i d e n => ?_, fun i g => ?_, R.dis, R.m0, R.fr0, R.byr, fun a o e n => k a o (R.keep a o e n), fun a z => let ⟨o, e⟩ := R.m1 a z; ⟨o, k a o e⟩⟩
  · obtain ⟨v, e1, r⟩ := R.val i d e n
    exact ⟨v, e1, RepD.keep (kA _) _ _ r⟩
  · obtain ⟨p, xs, vs, e1, q, e2, r⟩ := R.own i g
    exact ⟨p, xs, vs, e1, q, k _ _ e2, RepA.keep (kA _) _ _ r⟩
/-- a slot's value as it is read -/
theorem Rep.read (R : Rep K Z G ρ σ H) {i : Nat} {d : PyData} (e : ρ[i]? = some (some d)) : ∃ v, σ[i]? = some (some v) ∧ RepT K (Av Z G [i] σ) (Av Z G [] σ) H d v := by
  by_cases g : i ∈ G
  · obtain ⟨p, xs, vs, e1, q, e2, r⟩ := R.own i g
    rw [e] at e1; cases e1
    refine ⟨_, q, p, vs, rfl, LLA.of e2 ?_, r⟩
    rintro (x | ⟨j, h1, h2, h3⟩)
    · exact R.m0 i p g q x
    · exact h2 (by rw [R.dis j i p h1 g h3 q]; exact List.mem_singleton_self _)
  · obtain ⟨v, e1, r⟩ := R.val i d e g
    exact ⟨v, e1, (RepT.ofD r).mono (fun a => Av.mono (by simp)) fun _ x => x⟩
end

/-! ### promises -/
/-- how an exception of the language lies -/
abbrev ERel := Str → List PyData → Value → Option Addr → Hp → Prop
def Wp {α : Type} (X : Str → List PyData → Env → Prop) (P : α → Prop) : Res α → Prop
  | .ok a => P a
  | .exc c xs ρ => X c xs ρ
  | .stuck => False
section
variable {α β : Type} {X : Str → List PyData → Env → Prop}
theorem Wp.mono {P P' : α → Prop} {r : Res α} (h : Wp X P r) (k : ∀ a, P a → P' a) : Wp X P' r := by
  cases r with
  | ok a => exact k a h
  | exc c xs ρ => exact h
  | stuck => exact h
theorem wp_bnd {P : β → Prop} {r : Res α} {f : α → Res β} (h : Wp X P (r.bnd f)) : Wp X (fun a => Wp X P (f a)) r := by
  cases r with
  | ok a => exact h
  | exc c xs ρ => exact h
  | stuck => exact h
theorem wp_of {P : β → Prop} {o : Option α} {f : α → Res β} (h : Wp X P ((Res.of o).bnd f)) : ∃ a, o = some a ∧ Wp X P (f a) := by
  cases o with
  | none => exact h.elim
  | some a => exact ⟨a, rfl, h⟩
end
/-- what is wanted of an exception -/
def ExW (K : PySem.W.Frag) (ER : ERel) (W : WX) (Z : Zone) (G : List Nat) (σ : L2.St) : Str → List PyData → Env → Prop := fun c xs ρ' =>
  ∀ cls dx H', ER c xs cls dx H' → Rep K Z G ρ' σ H' → W cls dx σ H'
/-- a new object that others will change -/
def Zone.plus (Z : Zone) (D : Addr) : Zone := { Z with M := fun a => Z.M a ∨ a = D }
/-- what is known of an expression: the owned slots whose lists its value may be, its items may be; the slots that it changes; is it a new list; the slot that it is -/
structure Inf where
  al : List Nat := []
  el : List Nat := []
  md : List Nat := []
  fr : Bool := false
  ls : Bool := false
  vr : Option Nat := none
section
variable (K : PySem.W.Frag) (Z : Zone) (G : List Nat) (f : Inf) (σ : L2.St) (H : Hp)
/-- an expression's end -/
def PostE (p : PyData × Env) (Q : VK) : Prop := ∀ v H', RepT K (Av Z G f.al σ) (Av Z G f.el σ) H' p.1 v → (f.fr = true → Frsh K (Av Z G f.el σ) H H' p.1 v ∧ ∀ q, v = .ref q → Rep K (Z.plus q) G p.2 σ H') → (f.ls = true → ∃ xs, p.1 = .list xs) → (∀ i, f.vr = some i → σ[i]? = some (some v)) →
  Rep K Z G p.2 σ H' → Kp f.md σ H H' → Q v H'
def PostT (p : Bool × Env) (Q : Bool → Hp → Prop) : Prop := ∀ H', Rep K Z G p.2 σ H' → Kp f.md σ H H' → Q p.1 H'
end
section
variable (K : PySem.W.Frag) (ER : ERel) (W : WX) (G : List Nat) (f : Inf)
def tM (m : Env → Res (PyData × Env)) : TE := fun σ H Q => ∃ Z ρ, Rep K Z G ρ σ H ∧ Wp (ExW K ER W Z G σ) (fun p => PostE K Z G f σ H p Q) (m ρ)
def tMt (m : Env → Res (Bool × Env)) : TT := fun σ H Q => ∃ Z ρ, Rep K Z G ρ σ H ∧ Wp (ExW K ER W Z G σ) (fun p => PostT K Z G f σ H p Q) (m ρ)
end
end Hx
namespace L2
open PySem PySem.Spec PyProof.Rows
/-- weaker ahead -/
theorem PE.imp {X : Cx} {e : Expr} {t t' : TE} (h : PE X e t') (k : ∀ σ H Q, t σ H Q → t' σ H Q) : PE X e t := ⟨fun pins s σ H Q I q => h.run pins s σ H Q I (k σ H Q q)⟩
theorem PT.imp {X : Cx} {e : Expr} {t t' : TT} (h : PT X e t') (k : ∀ σ H Q, t σ H Q → t' σ H Q) : PT X e t := ⟨fun pins s σ H Q I q => h.run pins s σ H Q I (k σ H Q q)⟩
theorem PA.imp {X : Cx} {e : List Expr} {t t' : TA} (h : PA X e t') (k : ∀ σ H Q, t σ H Q → t' σ H Q) : PA X e t := ⟨fun pos pins s σ H Q I q => h.run pos pins s σ H Q I (k σ H Q q)⟩
theorem PS.imp {X : Cx} {e : Stmt} {t t' : TS} (h : PS X e t') (k : ∀ D σ H, t D σ H → t' D σ H) : PS X e t := ⟨fun pins s σ H D I q => h.run pins s σ H D I (k D σ H q)⟩
theorem PSs.imp {X : Cx} {e : List Stmt} {t t' : TS} (h : PSs X e t') (k : ∀ D σ H, t D σ H → t' D σ H) : PSs X e t := ⟨fun pins s σ H D I q => h.run pins s σ H D I (k D σ H q)⟩
end L2

set_option Elab.async false
set_option linter.all false
set_option maxRecDepth 100000
set_option maxHeartbeats 4000000
/-! H4: the operators by values, over what lies in the abstract heap. -/
namespace Hx
open PySem PySem.Spec PyProof.Rows L2

theorem lim_line : lim ≤ sizeLine := by decide
section
variable {X : Cx} {pins : List (Addr × Obj)} {s : Shared} {σ : L2.St} {H : Hp}
/-- the object of a list that is read -/
theorem lst_of (I : Inv X pins σ H s) {l : Addr} {xs : List V} (h : LL X.K H l xs) :
    xs.length ≤ sizeLine ∧ ∃ (its : List Value) (n : Nat), Vals xs its ∧ xs.length = its.length ∧ s.heap.get? l = some { cls := .type "list", data := .seq its.toArray n } := by
  rcases h with (h | ⟨o, h⟩) | ⟨its, n, hk, hz, r⟩
  · exact I.lstM h
  · obtain ⟨_, z, its, n, r, e⟩ := I.hok l _ h
    exact ⟨z, its, n, r, r.length, e⟩
  · exact ⟨by rw [r.length]; exact hz, its, n, r, r.length, I.kIn l _ hk⟩
end
/-- list + list, whatever keeps them -/
def rCatL (K : PySem.W.Frag) : R2 := fun x y H Q => ∃ l b xs zs, x = .ref l ∧ y = .ref b ∧ LL K H l xs ∧ LL K H b zs ∧ xs.length + zs.length ≤ sizeLine ∧ ∀ p, H p = none → Q (.ref p) (upd H p (.lst (xs ++ zs)))
theorem op_catL {X : Cx} : OpR X (binaryOp .Add) (rCatL X.K) := by
  intro pins s σ H x y v u Q I rx ry h
  obtain ⟨l, b, xs, zs, rfl, rfl, hl, hb, hz, q⟩ := h
  cases rx
  cases ry
  obtain ⟨z1, its1, n1, r1, l1, e1⟩ := lst_of I hl
  obtain ⟨z2, its2, n2, r2, l2, e2⟩ := lst_of I hb
  refine PySem.P.add_list e1 e2 ?_ (by rw [List.size_toArray, List.size_toArray]; omega)
  have ea : its1.toArray ++ its2.toArray = (its1 ++ its2).toArray := by simp
  rw [ea]
  exact ⟨.ref _, _, I.lnew (t' := s.toks) (r1.append r2) (by rw [List.length_append]; omega), rfl, q _ I.fresh⟩
theorem log_bits (x : Int) : Builtin.Int.intBits x ≤ x.natAbs.log2 + 1 := by
  unfold Builtin.Int.intBits
  split <;> omega
def CPowW (i j : Int) : Prop := 0 ≤ j ∧ j ≤ 1000 ∧ i.natAbs.log2 < 10000
theorem op_powW {X : Cx} : OpR X (binaryOp .Pow) (rI CPowW fun i j => .int (i ^ j.toNat)) := opI fun i j _ _ _ _ _ hc q => by
  obtain ⟨h1, h2, h3⟩ := hc
  have b := log_bits i
  refine pow_int h1 ?_ q
  have h4 : (Builtin.Int.intBits i : Int) ≤ 10001 := by omega
  have h5 : (Builtin.Int.intBits i : Int) * j ≤ 10001 * 1000 := Int.mul_le_mul h4 h2 h1 (by decide)
  exact Int.le_trans h5 (by decide)

/-! ### binary operators -/
def opP : BOp → Operator
  | .add => .Add
  | .sub => .Sub
  | .mul => .Mult
  | .lmul => .Mult
  | .fdiv => .FloorDiv
  | .mod => .Mod
  | .pow => .Pow
/-- what an operation on two values hands on -/
def Hands (K : PySem.W.Frag) (A : Addr → Prop) (H : Hp) (d : PyData) (Q : VK) : Prop :=
  ∀ w H', (∀ a o, H a = some o → H' a = some o) → RepD K A H' d w → (∀ xs, d = .list xs → Frsh K A H H' d w) → Q w H'
section
variable {K : PySem.W.Frag} {A B1 B2 A1 A2 : Addr → Prop} {H : Hp} {Q : VK}
theorem grow_upd {p : Addr} {o : HO} (h : H p = none) : ∀ a u, H a = some u → upd H p o a = some u := fun a u e => by
  rw [upd_ne (ne_of_none e h)]
  exact e
theorem Hands.leaf {d : PyData} {v : V} (q : Hands K A H d Q) (h : ∀ A', RepD K A' H d v) (n : ∀ xs, d ≠ .list xs) : Q v H :=
  q v H (fun _ _ e => e) (h A) fun xs e => absurd e (n xs)
theorem Hands.int {i : Int} (q : Hands K A H (.int i) Q) : Q (.int i) H := q.leaf (fun _ => by simp only [RepD]) (by simp)
theorem Hands.bool {i : Bool} (q : Hands K A H (.bool i) Q) : Q (.bl i) H := q.leaf (fun _ => by simp only [RepD]) (by simp)
theorem Hands.str {i : Str} (q : Hands K A H (.str i) Q) : Q (.str i) H := q.leaf (fun _ => by simp only [RepD]) (by simp)
theorem Hands.lst {ds : List PyData} {vs : List V} (q : Hands K A H (.list ds) Q) (hA : ∀ a, A a → ∃ o, H a = some o) (r : RepA K A H ds vs) {p : Addr} (hp : H p = none) : Q (.ref p) (upd H p (.lst vs)) := by
  have na : ¬ A p := fun z => by
    obtain ⟨o, e⟩ := hA p z
    rw [hp] at e; cases e
  have g := grow_upd (o := .lst vs) hp
  have r' : RepA K A (upd H p (.lst vs)) ds vs := RepA.keep (fun a o e _ => g a o e) _ _ r
  refine q _ _ g ?_ fun xs e => ⟨p, ds, vs, rfl, rfl, hp, upd_same, RepA.keep (fun a o e _ => g a o e) _ _ (RepA.fresh hp _ _ r)⟩
  simp only [RepD]
  exact ⟨p, vs, rfl, LLA.of upd_same na, r'⟩
theorem Hands.tup {ds : List PyData} {vs : List V} (q : Hands K A H (.tuple ds) Q) (hA : ∀ a, A a → ∃ o, H a = some o) (r : RepA K A H ds vs) : NewT H vs Q := by
  intro p ob hp hob
  have na : ¬ A p := fun z => by
    obtain ⟨o, e⟩ := hA p z
    rw [hp] at e; cases e
  have g := grow_upd (o := .frz ob (.tup vs)) hp
  have r' : RepA K A (upd H p (.frz ob (.tup vs))) ds vs := RepA.keep (fun a o e _ => g a o e) _ _ r
  refine q _ _ g ?_ fun xs e => by cases e
  simp only [RepD]
  exact ⟨p, vs, rfl, TTA.of hob upd_same na, r'⟩
theorem Hands.same {d : PyData} {v : V} (q : Hands K A H d Q) (r : RepD K A H d v) (n : ∀ xs, d ≠ .list xs) : Q v H := q v H (fun _ _ e => e) r fun xs e => absurd e (n xs)
theorem RepA.rep {ds : List PyData} {vs : List V} (r : RepA K A H ds vs) : ∀ n : Nat, RepA K A H (List.replicate n ds).flatten (List.replicate n vs).flatten
  | 0 => by simp only [List.replicate_zero, List.flatten_nil]; exact RepA.nil
  | n + 1 => by
    rw [List.replicate_succ, List.replicate_succ, List.flatten_cons, List.flatten_cons]
    exact r.append (RepA.rep r n)

/-- a + b .. by values. A list times an int: the list is new -/
theorem bin_ok {X : Cx} (o : BOp) : ∃ r, OpR X (binaryOp (opP o)) r ∧ ∀ (A B1 B2 A1 A2 : Addr → Prop) (H : Hp) (x y d : PyData) (v u : V) (Q : VK), RepT X.K A1 B1 H x v → RepT X.K A2 B2 H y u → binD o x y = some d →
    (∀ a, A a → B1 a) → (∀ a, A a → B2 a) → (∀ a, A a → ∃ o, H a = some o) → (o = .lmul → ∀ xs, x = .list xs → ∃ p ws, v = .ref p ∧ H p = some (.lst ws) ∧ RepA X.K B1 H xs ws) → Hands X.K A H d Q → r v u H Q := by
  cases o with
  | add =>
    refine ⟨_, OpR.or (OpR.or op_add op_catP) (OpR.or op_catL op_add_str), fun A B1 B2 A1 A2 H x y d v u Q rx ry e h1 h2 hA hm q => ?_⟩
    cases x with
    | int i =>
      cases y with
      | int j =>
        simp only [binD, Option.some.injEq] at e
        subst e
        exact .inl (.inl ⟨i, j, rx, ry, q.int⟩)
      | _ => simp [binD] at e
    | tuple a =>
      cases y with
      | tuple b =>
        simp only [binD] at e
        split at e
        · rename_i hl
          cases e
          simp only [RepT, RepD] at rx ry
          obtain ⟨p, vs, rfl, s1, r1⟩ := rx
          obtain ⟨p2, ws, rfl, s2, r2⟩ := ry
          have l1 := r1.length
          have l2 := r2.length
          have m1 := RepA.mono h1 _ _ r1
          have m2 := RepA.mono h2 _ _ r2
          have hz := lim_line
          refine .inl (.inr ⟨p, p2, vs, ws, rfl, rfl, s1.sq, s2.sq, by omega, fun z => ?_, fun z1 z => ?_, fun z1 z2 => ?_⟩)
          · subst z
            have : a = [] := List.length_eq_zero_iff.mp (by simpa using l1)
            subst this
            refine q.same ?_ (by simp)
            simp only [List.nil_append, RepD]
            exact ⟨p2, ws, rfl, s2.mono h2, m2⟩
          · subst z
            have : b = [] := List.length_eq_zero_iff.mp (by simpa using l2)
            subst this
            refine q.same ?_ (by simp)
            simp only [List.append_nil, RepD]
            exact ⟨p, vs, rfl, s1.mono h1, m1⟩
          · exact q.tup hA (m1.append m2)
        · cases e
      | _ => simp [binD] at e
    | list a =>
      cases y with
      | list b =>
        simp only [binD] at e
        split at e
        · rename_i hl
          cases e
          simp only [RepT] at rx ry
          obtain ⟨p, vs, rfl, s1, r1⟩ := rx
          obtain ⟨p2, ws, rfl, s2, r2⟩ := ry
          have l1 := r1.length
          have l2 := r2.length
          have hz := lim_line
          exact .inr (.inl ⟨p, p2, vs, ws, rfl, rfl, s1.ll, s2.ll, by omega, fun t ht => q.lst hA ((RepA.mono h1 _ _ r1).append (RepA.mono h2 _ _ r2)) ht⟩)
        · cases e
      | _ => simp [binD] at e
    | str a =>
      cases y with
      | str b =>
        simp only [binD] at e
        split at e
        · rename_i hl
          cases e
          have hz := lim_line
          exact .inr (.inr ⟨a, b, rx, ry, by omega, q.str⟩)
        · cases e
      | _ => simp [binD] at e
    | _ => simp [binD] at e
  | sub =>
    refine ⟨_, op_sub, fun A B1 B2 A1 A2 H x y d v u Q rx ry e h1 h2 hA hm q => ?_⟩
    cases x with
    | int i =>
      cases y with
      | int j =>
        simp only [binD, Option.some.injEq] at e
        subst e
        exact ⟨i, j, rx, ry, q.int⟩
      | _ => simp [binD] at e
    | _ => simp [binD] at e
  | mul =>
    refine ⟨_, OpR.or op_mulW op_repP, fun A B1 B2 A1 A2 H x y d v u Q rx ry e h1 h2 hA hm q => ?_⟩
    cases x with
    | int i =>
      cases y with
      | int j =>
        simp only [binD] at e
        split at e
        · rename_i hb
          cases e
          exact .inl ⟨i, j, rx, ry, by unfold CMulW; unfold bitsOk at hb; simpa using hb, q.int⟩
        · cases e
      | _ => simp [binD] at e
    | tuple a =>
      cases y with
      | int k =>
        simp only [binD] at e
        split at e
        · rename_i hb
          obtain ⟨b1, b2, b3, b4⟩ := hb
          cases e
          simp only [RepT, RepD] at rx
          obtain ⟨p, vs, rfl, s1, r1⟩ := rx
          have l1 := r1.length
          refine .inr (⟨p, k, vs, rfl, ry, s1.sq, ?_, b2, b3, by omega, q.tup hA ((RepA.mono h1 _ _ r1).rep _)⟩)
          intro z
          subst z
          exact b1 (List.length_eq_zero_iff.mp (by simpa using l1))
        · cases e
      | _ => simp [binD] at e
    | _ => simp [binD] at e
  | lmul =>
    refine ⟨_, op_rep, fun A B1 B2 A1 A2 H x y d v u Q rx ry e h1 h2 hA hm q => ?_⟩
    cases x with
    | list a =>
      cases y with
      | int k =>
        simp only [binD] at e
        split at e
        · rename_i hb
          obtain ⟨b1, b2, b3⟩ := hb
          cases e
          obtain ⟨p, ws, rfl, e1, r1⟩ := hm rfl a rfl
          have l1 := r1.length
          have hz := lim_line
          have hk : (k : Int) ≤ 1000000 := b3
          have hk2 : -(1000000 : Int) ≤ k := b2
          refine (⟨p, k, ws, rfl, ry, e1, by omega, by omega, by rw [← l1]; omega, fun t ht => q.lst hA ((RepA.mono h1 _ _ r1).rep _) ht⟩)
        · cases e
      | _ => simp [binD] at e
    | _ => simp [binD] at e
  | fdiv =>
    refine ⟨_, op_fdivW, fun A B1 B2 A1 A2 H x y d v u Q rx ry e h1 h2 hA hm q => ?_⟩
    cases x with
    | int i =>
      cases y with
      | int j =>
        simp only [binD] at e
        split at e
        · rename_i hb
          cases e
          exact ⟨i, j, rx, ry, hb, q.int⟩
        · cases e
      | _ => simp [binD] at e
    | _ => simp [binD] at e
  | mod =>
    refine ⟨_, op_mod, fun A B1 B2 A1 A2 H x y d v u Q rx ry e h1 h2 hA hm q => ?_⟩
    cases x with
    | int i =>
      cases y with
      | int j =>
        simp only [binD] at e
        split at e
        · rename_i hb
          cases e
          exact ⟨i, j, rx, ry, hb, q.int⟩
        · cases e
      | _ => simp [binD] at e
    | _ => simp [binD] at e
  | pow =>
    refine ⟨_, op_powW, fun A B1 B2 A1 A2 H x y d v u Q rx ry e h1 h2 hA hm q => ?_⟩
    cases x with
    | int i =>
      cases y with
      | int j =>
        simp only [binD] at e
        split at e
        · rename_i hb
          cases e
          exact ⟨i, j, rx, ry, hb, q.int⟩
        · cases e
      | _ => simp [binD] at e
    | _ => simp [binD] at e
end
end Hx

set_option Elab.async false
set_option linter.all false
set_option maxRecDepth 100000
set_option maxHeartbeats 4000000
/-! H5a: a dict and a tuple are never equal; a tuple and the empty one; a list and a tuple, whatever lies within. -/
namespace Hx
open PySem PySem.Spec PyProof.Rows L2 PySem.SeqAt
theorem tuple_eq_dict (l b : Addr) (items : Array Value) (n : Nat) (dd : Option Addr) (sl : Array (Option Value)) (data2 : Data) (dd2 : Option Addr) (sl2 : Array (Option Value)) :
    Meets (Builtin.«tuple.__eq__» ⟨[.ref l, .ref b], []⟩) (fun _ R s => s.heap.get? l = some { cls := .type "tuple", dict := dd, data := .seq items n, slots := sl } ∧ s.heap.get? b = some { cls := .type "dict", dict := dd2, data := data2, slots := sl2 } ∧ R (.ok (.ret .notImplemented)) s) :=
  .of_wp fun prog w A R s h => by
    obtain ⟨hp, g, d, tk, os⟩ := s
    obtain ⟨hl, hb, h⟩ := h
    have f1 := F.sub_dict_tuple
    wp_walk using AutoSeq1.wpAny_loadPart' hl, AutoSeq1.wpAny_loadPart' hb
    exact ⟨_, rfl, h⟩
theorem tuple_ne_dict (l b : Addr) (items : Array Value) (n : Nat) (dd : Option Addr) (sl : Array (Option Value)) (data2 : Data) (dd2 : Option Addr) (sl2 : Array (Option Value)) :
    Meets (Builtin.«tuple.__ne__» ⟨[.ref l, .ref b], []⟩) (fun _ R s => s.heap.get? l = some { cls := .type "tuple", dict := dd, data := .seq items n, slots := sl } ∧ s.heap.get? b = some { cls := .type "dict", dict := dd2, data := data2, slots := sl2 } ∧ R (.ok (.ret .notImplemented)) s) :=
  .of_wp fun prog w A R s h => by
    obtain ⟨hp, g, d, tk, os⟩ := s
    obtain ⟨hl, hb, h⟩ := h
    have f1 := F.sub_dict_tuple
    wp_walk using AutoSeq1.wpAny_loadPart' hl, AutoSeq1.wpAny_loadPart' hb
    exact ⟨_, rfl, h⟩
section
variable {prog : Program} {w : World} {A : Around} {s : Shared} {E : Value → Shared → Prop} {a b : Addr} {Q : Value → Shared → Prop}
theorem dict_eq_tup (ha : s.TypeIs (.ref a) "dict") (hb : s.TypeIs (.ref b) "tuple") (h : Q .notImplemented s) : wpAny (model prog w) A (call (.builtin "dict.__eq__") [.ref a, .ref b]) Q E s := by
  refine wpAny_call_entry PySem.F.slot_dict_eq ha PySem.F.entry_dict_eq ?_ (PySem.F.args_dict_eq_2 _ _)
  show wpAny _ _ (Builtin.Dict.dictSlotArgs "__eq__" ⟨[.ref a, .ref b], []⟩ >>= _) _ _ s
  refine wpAny_bind ?_
  unfold Builtin.Dict.dictSlotArgs
  refine wpAny_bind (wpAny_notOrdered_dict ha ?_)
  show wpAny _ _ (pure (Value.ref a, Value.ref b)) _ _ s
  refine wpAny_pure ?_
  refine wpAny_bind (wpAny_isInstance (T := "tuple") hb PySem.F.sub_tuple_dict ?_)
  simp only [Bool.not_false, if_true]
  refine wpAny_bind (wpAny_rule ?_)
  exact wpAny_pure ⟨_, rfl, by first | exact h | exact ⟨fun x => nomatch x, h⟩⟩
theorem dict_ne_tup (ha : s.TypeIs (.ref a) "dict") (hb : s.TypeIs (.ref b) "tuple") (h : Q .notImplemented s) : wpAny (model prog w) A (call (.builtin "dict.__ne__") [.ref a, .ref b]) Q E s := by
  refine wpAny_call_entry PySem.F.slot_dict_ne ha PySem.F.entry_dict_ne ?_ (PySem.F.args_dict_ne_2 _ _)
  show wpAny _ _ (Builtin.Dict.dictSlotArgs "__ne__" ⟨[.ref a, .ref b], []⟩ >>= _) _ _ s
  refine wpAny_bind ?_
  unfold Builtin.Dict.dictSlotArgs
  refine wpAny_bind (wpAny_notOrdered_dict ha ?_)
  show wpAny _ _ (pure (Value.ref a, Value.ref b)) _ _ s
  refine wpAny_pure ?_
  refine wpAny_bind (wpAny_isInstance (T := "tuple") hb PySem.F.sub_tuple_dict ?_)
  simp only [Bool.not_false, if_true]
  refine wpAny_bind (wpAny_rule ?_)
  exact wpAny_pure ⟨_, rfl, by first | exact h | exact ⟨fun x => nomatch x, h⟩⟩
theorem rc_dict_tuple {items : Array Value} {o : Obj} (ha : s.heap.get? a = some o) (hc : o.cls = .type "dict") (hb : s.heap.IsTuple b items) (hu : A.units < cLine) : RcAt A s (.ref a) (.ref b) false := fun prog w E Q h => by
  obtain ⟨⟨cls2, dd2, data2, sl2⟩, ho2, hc2, n2, hd2⟩ := id hb
  simp only at hc2 hd2
  subst hc2 hd2
  obtain ⟨cls, dd, data, sl⟩ := o
  simp only at hc
  subst hc
  have hne : a ≠ b := fun e => by
    subst e
    have q := congrArg (Option.map Obj.cls) (ha.symm.trans ho2)
    simp only [Option.map_some, Option.some.injEq] at q
    injection q with q
    exact absurd q (by decide)
  exact rc_eq_decline_or (k := false) ⟨_, ha, rfl⟩ ⟨_, ho2, rfl⟩ (by decide) F.sub_tuple_dict F.slot_dict_eq F.slot_tuple_eq_refl
    (fun _ hq => dict_eq_tup ⟨_, ha, rfl⟩ ⟨_, ho2, rfl⟩ hq)
    (fun _ hq => call_meets F.slot_tuple_eq_refl ⟨_, ho2, rfl⟩ F.entry_tuple_eq (F.args_tuple_eq_2 _ _) (tuple_eq_dict b a items n2 dd2 sl2 data dd sl) ⟨ho2, ha, hq⟩)
    (fun _ hq => wpAny_isSame_ref_other hne ha ho2 (by simp) hq) (.inr hu) h
theorem rcn_dict_tuple {items : Array Value} {o : Obj} (ha : s.heap.get? a = some o) (hc : o.cls = .type "dict") (hb : s.heap.IsTuple b items) (hu : A.units < cLine) : RcNeAt A s (.ref a) (.ref b) true := fun prog w E Q h => by
  obtain ⟨⟨cls2, dd2, data2, sl2⟩, ho2, hc2, n2, hd2⟩ := id hb
  simp only at hc2 hd2
  subst hc2 hd2
  obtain ⟨cls, dd, data, sl⟩ := o
  simp only at hc
  subst hc
  have hne : a ≠ b := fun e => by
    subst e
    have q := congrArg (Option.map Obj.cls) (ha.symm.trans ho2)
    simp only [Option.map_some, Option.some.injEq] at q
    injection q with q
    exact absurd q (by decide)
  exact rc_ne_decline_or (k := false) ⟨_, ha, rfl⟩ ⟨_, ho2, rfl⟩ (by decide) F.sub_tuple_dict F.slot_dict_ne F.slot_tuple_ne_refl
    (fun _ hq => dict_ne_tup ⟨_, ha, rfl⟩ ⟨_, ho2, rfl⟩ hq)
    (fun _ hq => call_meets F.slot_tuple_ne_refl ⟨_, ho2, rfl⟩ F.entry_tuple_ne (F.args_tuple_ne_2 _ _) (tuple_ne_dict b a items n2 dd2 sl2 data dd sl) ⟨ho2, ha, hq⟩)
    (fun _ hq => wpAny_isSame_ref_other hne ha ho2 (by simp) hq) (.inr hu) h
end
theorem eqTop_cases {x y : PyData} (h : eqTop x y = true) : (∃ xs, x = .tuple xs ∧ y = .tuple []) ∨ (∃ xs ys, x = .list xs ∧ y = .tuple ys) ∨ ∃ xs ys, x = .dict xs ∧ y = .tuple ys := by
  unfold eqTop at h
  rw [Bool.or_eq_true, Bool.and_eq_true, Bool.and_eq_true] at h
  rcases h with ⟨h1, h2⟩ | ⟨h1, h2⟩
  · cases x with
    | tuple xs =>
      cases y with
      | tuple ys =>
        have : ys = [] := List.isEmpty_iff.mp h2
        subst this
        exact .inl ⟨xs, rfl, rfl⟩
      | _ => cases h2
    | _ => cases h1
  · cases y with
    | tuple ys =>
      cases x with
      | list xs => exact .inr (.inl ⟨xs, ys, rfl, rfl⟩)
      | dict xs => exact .inr (.inr ⟨xs, ys, rfl, rfl⟩)
      | _ => cases h1
    | _ => cases h2
theorem all_range0 (f : Nat → Bool) (n : Nat) : (List.range (min n 0)).all f = true := by rw [Nat.min_zero]; rfl
/-- what is never equal by its kind, and a tuple and the empty one -/
theorem rc_top {x y : PyData} {A : Around} {s : Shared} {a b : Value} {as bs : List Addr} (ra : Reads s.heap a x as) (rb : Reads s.heap b y bs) (h : eqTop x y = true) (hu : A.units < cLine) : RcAt A s a b (PyData.eqv x y) ∧ RcNeAt A s a b (!PyData.eqv x y) := by
  rcases eqTop_cases h with ⟨xs, rfl, rfl⟩ | ⟨xs, ys, rfl, rfl⟩ | ⟨xs, ys, rfl, rfl⟩
  · cases ra with
    | @tuple l o vs n _ as₁ h1 h2 h3 h4 =>
      have rb' := rb
      cases rb with
      | @tuple l' o' vs' n' _ bs₁ k1 k2 k3 k4 =>
        have n1 : vs.size = xs.length := by simpa using ReadsAll.length _ _ _ h4
        have n2 : vs'.size = 0 := by simpa using ReadsAll.length _ _ _ k4
        have hl : s.heap.IsTuple l vs := ⟨_, h1, h2, _, h3⟩
        have hl' : s.heap.IsTuple l' vs' := ⟨_, k1, k2, _, k3⟩
        have he : ∀ j (j1 : j < vs.size) (j2 : j < vs'.size), EqAt A.in1 s vs[j] vs'[j] ((fun _ => true) j) := fun j _ j2 => absurd j2 (by omega)
        have e : PyData.eqv (.tuple xs) (.tuple []) = ((List.range (min vs.size vs'.size)).all (fun _ => true) && vs.size == vs'.size) := by
          show PyData.eqvAll xs [] = _
          rw [n1, n2, all_range0]
          cases xs <;> rfl
        rw [e]
        exact ⟨RcAt.tuples hl hl' hu he, RcNeAt.tuples hl hl' hu he⟩
  · cases ra with
    | list h1 h2 h3 h4 =>
      cases rb with
      | tuple k1 k2 k3 k4 => exact ⟨RcAt.list_tuple ⟨_, h1, h2, _, h3⟩ ⟨_, k1, k2, _, k3⟩ hu, RcNeAt.list_tuple ⟨_, h1, h2, _, h3⟩ ⟨_, k1, k2, _, k3⟩ hu⟩
  · cases ra with
    | dict h1 h2 h3 h4 h5 =>
      cases rb with
      | tuple k1 k2 k3 k4 => exact ⟨rc_dict_tuple h1 h2 ⟨_, k1, k2, _, k3⟩ hu, rcn_dict_tuple h1 h2 ⟨_, k1, k2, _, k3⟩ hu⟩
end Hx

set_option Elab.async false
set_option linter.all false
set_option maxRecDepth 100000
set_option maxHeartbeats 4000000
/-! H5: what lies in the abstract heap reads as data; comparisons, isinstance, truth by values. -/
namespace Hx
open PySem PySem.Spec PyProof.Rows L2 PySem.SeqAt

section
variable {X : Cx} {pins : List (Addr × Obj)} {σ : L2.St} {H : Hp} {s : Shared} {A : Addr → Prop}
theorem reads_kv (I : Inv X pins σ H s) {es : List DictEntry} {us : List (Key × Value)} (p : Pairs (mixKind X.prog X.w) es us) : ∀ {kvs : List (PyData × PyData)} {vs : List (Key × V)}, RepK X.K A H kvs vs → KV vs us →
    (∀ kv ∈ kvs, ∀ (v : V) (u : Value), RepD X.K A H kv.2 v → RelV v u → ∃ as, Reads s.heap u kv.2 as ∧ (noL kv.2 = true → sysModules ∉ as)) →
    (∃ as, ReadsAll s.heap (es.map (·.key)) (kvs.map (·.1)) as ∧ sysModules ∉ as) ∧ ∃ bs, ReadsAll s.heap (es.map (·.val)) (kvs.map (·.2)) bs ∧ (noLk kvs = true → sysModules ∉ bs) := by
  induction p with
  | nil =>
    intro kvs vs r q _
    cases q
    cases kvs with
    | nil => exact ⟨⟨_, .nil, by simp⟩, ⟨_, .nil, by simp⟩⟩
    | cons a b =>
      obtain ⟨k, d⟩ := a
      simp only [RepK] at r
      obtain ⟨_, _, _, e, _⟩ := r
      cases e
  | @cons e kv es us hk hv _ ih =>
    intro kvs vs r q h
    cases q with
    | @cons a _ l _ q1 q2 =>
      cases kvs with
      | nil =>
        simp only [RepK] at r
        cases r
      | cons z b =>
        obtain ⟨k, d⟩ := z
        simp only [RepK] at r
        obtain ⟨kk, v, r', e1, e2, e3, e4⟩ := r
        cases e1
        obtain ⟨⟨as, h1, n1⟩, ⟨bs, h2, n2⟩⟩ := ih e4 q2 fun kv hm => h kv (List.mem_cons_of_mem _ hm)
        obtain ⟨q3, q4⟩ := q1
        obtain ⟨cs, h3, n3⟩ := h (k, d) List.mem_cons_self v _ e3 q4
        have hk' : keyIs kk e.key = true := by
          have : (mixKind X.prog X.w).is kv.1 e.key = true := hk
          rw [← q3] at this
          exact this
        have h4 : ∃ ds, Reads s.heap e.key k ds ∧ sysModules ∉ ds := by
          cases k with
          | int i =>
            simp only [keyD, Option.some.injEq] at e2
            subst e2
            obtain ⟨t, e5⟩ := Value.isInt_shape (k := i) (v := e.key) hk'
            rw [e5]
            exact ⟨_, .int i t, by simp⟩
          | str i =>
            simp only [keyD, Option.some.injEq] at e2
            subst e2
            obtain ⟨t, e5⟩ := Value.isStrOf_shape (x := i) (v := e.key) hk'
            rw [e5]
            exact ⟨_, .str i t, by simp⟩
          | _ => simp [keyD] at e2
        obtain ⟨ds, h4, n4⟩ := h4
        have h5 : Reads s.heap e.val d cs := by
          rw [hv]
          exact h3
        refine ⟨⟨_, ReadsAll.cons h4 h1, fun hm => (List.mem_append.mp hm).elim n4 n1⟩, ⟨_, ReadsAll.cons h5 h2, fun hn => ?_⟩⟩
        simp only [noLk, Bool.and_eq_true] at hn
        exact fun hm => (List.mem_append.mp hm).elim (n3 hn.1) (n2 hn.2)
mutual
theorem RepD.reads2 (I : Inv X pins σ H s) : ∀ (d : PyData) (v : V) (u : Value), RepD X.K A H d v → RelV v u → ∃ as, Reads s.heap u d as ∧ (noL d = true → sysModules ∉ as)
  | .none, v, u, h, r => by
    simp only [RepD] at h
    subst h
    cases r
    exact ⟨_, Reads.none, by simp⟩
  | .bool b, v, u, h, r => by
    simp only [RepD] at h
    subst h
    cases r
    exact ⟨_, Reads.bool b, by simp⟩
  | .int i, v, u, h, r => by
    simp only [RepD] at h
    subst h
    obtain ⟨t, rfl⟩ := r
    exact ⟨_, Reads.int i t, by simp⟩
  | .str x, v, u, h, r => by
    simp only [RepD] at h
    subst h
    obtain ⟨t, rfl⟩ := r
    exact ⟨_, Reads.str x t, by simp⟩
  | .list ds, v, u, h, r => by
    simp only [RepD] at h
    obtain ⟨a, vs, e, hs, ha⟩ := h
    subst e
    cases r
    obtain ⟨its, rv, ⟨o, n, ho, hc, _, hd⟩, _⟩ := I.list hs.sq
    obtain ⟨as, hr, _⟩ := RepA.reads2 I ds _ its ha rv
    exact ⟨_, Reads.list ho hc hd hr, fun hn => by simp [noL] at hn⟩
  | .tuple ds, v, u, h, r => by
    simp only [RepD] at h
    obtain ⟨a, vs, e, hs, ha⟩ := h
    subst e
    cases r
    obtain ⟨its, rv, ⟨o, ho, hc, n, hd⟩, _⟩ := I.tuple hs.sq
    obtain ⟨as, hr, hn⟩ := RepA.reads2 I ds _ its ha rv
    exact ⟨_, Reads.tuple ho hc hd hr, fun z => hn (by simpa [noL] using z)⟩
  | .dict kvs, v, u, h, r => by
    simp only [RepD] at h
    obtain ⟨a, vs, e, hs, ha⟩ := h
    subst e
    cases r
    obtain ⟨z, ne, us, q, ⟨o, es, ep, ho, hx, hd, _, hp, _⟩⟩ := hs.1.ok I.hok
    obtain ⟨⟨as, h1, n1⟩, ⟨bs, h2, n2⟩⟩ := reads_kv I hp ha q (RepK.reads2 I kvs)
    refine ⟨_, Reads.dict ho hx.1 hd h1 h2, fun hn => ?_⟩
    have hn' : noLk kvs = true := by simpa [noL] using hn
    intro hm
    rcases List.mem_cons.mp hm with e | hm
    · rw [← e] at ne
      simp at ne
    · exact (List.mem_append.mp hm).elim n1 (n2 hn')
theorem RepA.reads2 (I : Inv X pins σ H s) : ∀ (ds : List PyData) (vs : List V) (us : List Value), RepA X.K A H ds vs → Vals vs us → ∃ as, ReadsAll s.heap us ds as ∧ (noLs ds = true → sysModules ∉ as)
  | [], vs, us, h, r => by
    simp only [RepA] at h
    subst h
    cases r
    exact ⟨_, ReadsAll.nil, by simp⟩
  | d :: ds, vs, us, h, r => by
    simp only [RepA] at h
    obtain ⟨v, r', e, h1, h2⟩ := h
    subst e
    cases r with
    | cons r1 r2 =>
      obtain ⟨as, q1, n1⟩ := RepD.reads2 I d _ _ h1 r1
      obtain ⟨bs, q2, n2⟩ := RepA.reads2 I ds _ _ h2 r2
      refine ⟨_, ReadsAll.cons q1 q2, fun hn => ?_⟩
      simp only [noLs, Bool.and_eq_true] at hn
      exact fun hm => (List.mem_append.mp hm).elim (n1 hn.1) (n2 hn.2)
theorem RepK.reads2 (I : Inv X pins σ H s) : ∀ (kvs : List (PyData × PyData)), ∀ kv ∈ kvs, ∀ (v : V) (u : Value), RepD X.K A H kv.2 v → RelV v u → ∃ as, Reads s.heap u kv.2 as ∧ (noL kv.2 = true → sysModules ∉ as)
  | [], kv, hm => by cases hm
  | (k, d) :: kvs, kv, hm => by
    rcases List.mem_cons.mp hm with e | hm
    · rw [e]
      exact RepD.reads2 I d
    · exact RepK.reads2 I kvs kv hm
end
theorem RepD.reads (I : Inv X pins σ H s) (d : PyData) (v : V) (u : Value) (h : RepD X.K A H d v) (r : RelV v u) : ∃ as, Reads s.heap u d as := by
  obtain ⟨as, h, _⟩ := RepD.reads2 I d v u h r
  exact ⟨as, h⟩
theorem RepA.reads (I : Inv X pins σ H s) (ds : List PyData) (vs : List V) (us : List Value) (h : RepA X.K A H ds vs) (r : Vals vs us) : ∃ as, ReadsAll s.heap us ds as := by
  obtain ⟨as, h, _⟩ := RepA.reads2 I ds vs us h r
  exact ⟨as, h⟩
end

/-! ### comparisons -/
def copP : COp → CmpOp
  | .eq => .Eq
  | .ne => .NotEq
  | .lt => .Lt
  | .le => .LtE
  | .gt => .Gt
  | .ge => .GtE
  | .isin => .In
  | .notin => .NotIn
  | .is => .Is
  | .nis => .IsNot
def rCmp (K : PySem.W.Frag) (o : COp) : R2 := fun v u H Q => ∃ (A B : Addr → Prop) (x y : PyData) (k : Bool), RepD K A H x v ∧ RepD K B H y u ∧ cmpD o x y = some k ∧ Q (.bl k) H
theorem eqOk_of {a b : PyData} (h : eqOk a b = true) : (a.plain = true ∧ b.plain = true ∧ min a.depth b.depth ≤ 60) ∨ eqTop a b = true := by
  unfold eqOk at h
  simp only [Bool.or_eq_true, Bool.and_eq_true, decide_eq_true_eq] at h
  rcases h with h | h
  · exact .inl ⟨h.1.1, h.1.2, h.2⟩
  · exact .inr h
theorem ltOk_of {a b : PyData} (h : ltOk a b = true) : PySem.W.alike a b = true ∧ a ≠ .none ∧ min a.depth b.depth ≤ 60 := by
  unfold ltOk at h
  simp only [Bool.and_eq_true, decide_eq_true_eq] at h
  refine ⟨h.1.1, fun e => ?_, h.2⟩
  subst e
  exact absurd h.1.2 (by simp)
theorem inOk_of {x : PyData} {xs : List PyData} (h : inOk x xs = true) : x.plain = true ∧ PyData.plainAll xs = true ∧ min (PyData.depthAll xs) x.depth ≤ 60 := by
  unfold inOk at h
  simp only [Bool.and_eq_true, decide_eq_true_eq] at h
  exact ⟨h.1.1, h.1.2, h.2⟩
theorem two_ints (x y : PyData) : (∃ i j, x = .int i ∧ y = .int j) ∨ ∀ {α : Type} (f : Int → Int → α) (g : α), onInts f g x y = g := by
  cases x with
  | int i =>
    cases y with
    | int j => exact .inl ⟨i, j, rfl, rfl⟩
    | _ => exact .inr fun f g => rfl
  | _ => exact .inr fun f g => rfl
theorem cmp_ok {X : Cx} (hu : X.A.units + 64 < cLine) (o : COp) : OpR X (compareOp (copP o)) (rCmp X.K o) := by
  intro pins s σ H v u v' u' Q I rv ru h
  obtain ⟨A, B, x, y, k, hx, hy, e, q⟩ := h
  obtain ⟨as, r1⟩ := RepD.reads I x _ _ hx rv
  obtain ⟨bs, r2⟩ := RepD.reads I y _ _ hy ru
  cases o with
  | eq =>
    simp only [cmpD] at e
    split at e
    · rename_i hk
      cases e
      rcases eqOk_of hk with ⟨h1, h2, h3⟩ | h1
      · exact eq_plain r1 r2 h1 h2 (by omega) ⟨.bl _, H, I, rfl, q⟩
      · exact (rc_top r1 r2 h1 (by omega)).1 _ _ _ _ ⟨.bl _, H, I, rfl, q⟩
    · cases e
  | ne =>
    simp only [cmpD] at e
    split at e
    · rename_i hk
      cases e
      rcases eqOk_of hk with ⟨h1, h2, h3⟩ | h1
      · exact ne_plain r1 r2 h1 h2 (by omega) ⟨.bl _, H, I, rfl, q⟩
      · exact (rc_top r1 r2 h1 (by omega)).2 _ _ _ _ ⟨.bl _, H, I, rfl, q⟩
    · cases e
  | lt =>
    rcases two_ints x y with ⟨i, j, rfl, rfl⟩ | hg
    · simp only [cmpD, onInts, Option.some.injEq] at e
      subst e
      simp only [RepD] at hx hy
      exact op_lt pins s σ H v u v' u' Q I rv ru ⟨i, j, hx, hy, q⟩
    · simp only [cmpD, hg] at e
      split at e
      · rename_i hk
        cases e
        obtain ⟨h1, h2, h3⟩ := ltOk_of hk
        exact PySem.W.lt_data r1 r2 h1 h2 (by omega) ⟨.bl _, H, I, rfl, q⟩
      · cases e
  | le =>
    rcases two_ints x y with ⟨i, j, rfl, rfl⟩ | hg
    · simp only [cmpD, onInts, Option.some.injEq] at e
      subst e
      simp only [RepD] at hx hy
      exact op_le pins s σ H v u v' u' Q I rv ru ⟨i, j, hx, hy, q⟩
    · simp only [cmpD, hg] at e
      split at e
      · rename_i hk
        cases e
        obtain ⟨h1, h2, h3⟩ := ltOk_of hk
        exact PySem.W.le_data r1 r2 h1 h2 (by omega) ⟨.bl _, H, I, rfl, q⟩
      · cases e
  | gt =>
    rcases two_ints x y with ⟨i, j, rfl, rfl⟩ | hg
    · simp only [cmpD, onInts, Option.some.injEq] at e
      subst e
      simp only [RepD] at hx hy
      exact op_gt pins s σ H v u v' u' Q I rv ru ⟨i, j, hx, hy, q⟩
    · simp only [cmpD, hg] at e
      split at e
      · rename_i hk
        cases e
        obtain ⟨h1, h2, h3⟩ := ltOk_of hk
        exact PySem.W.gt_data r1 r2 h1 h2 (by omega) ⟨.bl _, H, I, rfl, q⟩
      · cases e
  | ge =>
    rcases two_ints x y with ⟨i, j, rfl, rfl⟩ | hg
    · simp only [cmpD, onInts, Option.some.injEq] at e
      subst e
      simp only [RepD] at hx hy
      exact op_ge pins s σ H v u v' u' Q I rv ru ⟨i, j, hx, hy, q⟩
    · simp only [cmpD, hg] at e
      split at e
      · rename_i hk
        cases e
        obtain ⟨h1, h2, h3⟩ := ltOk_of hk
        exact PySem.W.ge_data r1 r2 h1 h2 (by omega) ⟨.bl _, H, I, rfl, q⟩
      · cases e
  | isin =>
    cases y with
    | list ys =>
      simp only [cmpD] at e
      split at e
      · rename_i hk
        obtain ⟨h1, h2, h3⟩ := inOk_of hk
        cases e
        exact in_list_data r2 r1 h2 h1 (by omega) ⟨.bl _, H, I, rfl, q⟩
      · cases e
    | tuple ys =>
      simp only [cmpD] at e
      split at e
      · rename_i hk
        obtain ⟨h1, h2, h3⟩ := inOk_of hk
        cases e
        exact in_tuple_data r2 r1 h2 h1 (by omega) ⟨.bl _, H, I, rfl, q⟩
      · cases e
    | _ => simp [cmpD] at e
  | notin =>
    cases y with
    | list ys =>
      simp only [cmpD] at e
      split at e
      · rename_i hk
        obtain ⟨h1, h2, h3⟩ := inOk_of hk
        cases e
        exact notIn_list_data r2 r1 h2 h1 (by omega) ⟨.bl _, H, I, rfl, q⟩
      · cases e
    | tuple ys =>
      simp only [cmpD] at e
      split at e
      · rename_i hk
        obtain ⟨h1, h2, h3⟩ := inOk_of hk
        cases e
        exact notIn_tuple_data r2 r1 h2 h1 (by omega) ⟨.bl _, H, I, rfl, q⟩
      · cases e
    | _ => simp [cmpD] at e
  | is =>
    cases x with
    | bool a =>
      cases y with
      | bool b =>
        simp only [cmpD, Option.some.injEq] at e
        subst e
        simp only [RepD] at hx hy
        exact op_isBl pins s σ H v u v' u' Q I rv ru ⟨a, b, hx, hy, q⟩
      | _ => simp [cmpD] at e
    | _ => simp [cmpD] at e
  | nis =>
    cases x with
    | bool a =>
      cases y with
      | bool b =>
        simp only [cmpD, Option.some.injEq] at e
        subst e
        simp only [RepD] at hx hy
        exact op_notBl pins s σ H v u v' u' Q I rv ru ⟨a, b, hx, hy, q⟩
      | _ => simp [cmpD] at e
    | _ => simp [cmpD] at e

/-! ### truth, isinstance -/
theorem tru_of {K : PySem.W.Frag} {A : Addr → Prop} {H : Hp} {d : PyData} {v : V} {k : Bool} (h : RepD K A H d v) (e : truD d = some k) : TruV K v H k := by
  cases d with
  | none =>
    simp only [RepD] at h
    subst h
    have e2 : false = k := by simpa only [truD, Option.some.injEq] using e
    exact e2.symm
  | bool b =>
    simp only [RepD] at h
    subst h
    have e2 : b = k := by simpa only [truD, Option.some.injEq] using e
    exact e2.symm
  | int b =>
    simp only [RepD] at h
    subst h
    have e2 : (b != 0) = k := by simpa only [truD, Option.some.injEq] using e
    exact e2.symm
  | str b =>
    simp only [RepD] at h
    subst h
    simp only [truD] at e
    split at e
    · rename_i hl
      cases e
      have hz := lim_line
      refine ⟨by omega, ?_⟩
      rw [bne, bne]
      congr 1
      rw [Bool.eq_iff_iff, beq_iff_eq, beq_iff_eq]
      omega
    · cases e
  | list ds =>
    simp only [RepD] at h
    obtain ⟨a, vs, e', s, r⟩ := h
    subst e'
    have e2 : (!ds.isEmpty) = k := by simpa only [truD, Option.some.injEq] using e
    subst e2
    refine .inl ⟨vs, s.sq, ?_⟩
    have := r.length
    cases ds <;> cases vs <;> simp_all
  | tuple ds =>
    simp only [RepD] at h
    obtain ⟨a, vs, e', s, r⟩ := h
    subst e'
    have e2 : (!ds.isEmpty) = k := by simpa only [truD, Option.some.injEq] using e
    subst e2
    refine .inr (.inl ⟨vs, s.sq, ?_⟩)
    have := r.length
    cases ds <;> cases vs <;> simp_all
  | dict ds => simp [truD] at e
def tyN : Ty → String
  | .int => "int"
  | .bool => "bool"
  | .str => "str"
  | .tuple => "tuple"
  | .list => "list"
  | .dict => "dict"
def rIsa (K : PySem.W.Frag) (t : Ty) (xs : List V) (H : Hp) (Q : VK) : Prop := ∃ (A : Addr → Prop) (d : PyData) (v : V), xs = [v, .ty (tyN t)] ∧ RepD K A H d v ∧ Q (.bl (isaD t d)) H
theorem isa_ok {X : Cx} (t : Ty) : CallR X (.builtin "isinstance") (rIsa X.K t) := by
  intro pins s σ H xs us Q I r h
  obtain ⟨A, d, v, rfl, hd, q⟩ := h
  obtain ⟨u1, u2, rfl, r1, r2⟩ := vals2 r
  obtain ⟨as, rd⟩ := RepD.reads I d _ _ hd r1
  cases t with
  | int =>
    obtain rfl : u2 = .type "int" := r2
    exact PySem.W.isinstance_int_data rd fun tk _ => ⟨.bl _, H, I.tok _, by cases d <;> rfl, q⟩
  | bool =>
    obtain rfl : u2 = .type "bool" := r2
    exact PySem.W.isinstance_bool_data rd fun tk _ => ⟨.bl _, H, I.tok _, by cases d <;> rfl, q⟩
  | str =>
    obtain rfl : u2 = .type "str" := r2
    exact PySem.W.isinstance_str_data rd fun tk _ => ⟨.bl _, H, I.tok _, by cases d <;> rfl, q⟩
  | tuple =>
    obtain rfl : u2 = .type "tuple" := r2
    exact PySem.W.isinstance_tuple_data rd fun tk _ => ⟨.bl _, H, I.tok _, by cases d <;> rfl, q⟩
  | list =>
    obtain rfl : u2 = .type "list" := r2
    exact PySem.W.isinstance_list_data rd fun tk _ => ⟨.bl _, H, I.tok _, by cases d <;> rfl, q⟩
  | dict =>
    obtain rfl : u2 = .type "dict" := r2
    exact PySem.W.isinstance_dict_data rd fun tk _ => ⟨.bl _, H, I.tok _, by cases d <;> rfl, q⟩
end Hx

set_option Elab.async false
set_option linter.all false
set_option maxRecDepth 100000
set_option maxHeartbeats 4000000
/-! H6: the builtin functions by values. -/
namespace Hx
open PySem PySem.Spec PyProof.Rows L2 PySem.SeqAt

section
variable (K : PySem.W.Frag)
/-- values of a call's arguments -/
def RepTs (A B : Addr → Prop) (H : Hp) : List PyData → List V → Prop
  | [], vs => vs = []
  | d :: ds, vs => ∃ v r, vs = v :: r ∧ RepT K A B H d v ∧ RepTs A B H ds r
end
section
variable {K : PySem.W.Frag} {A A' B B' : Addr → Prop} {H H' : Hp}
theorem RepTs.nil : RepTs K A B H [] [] := by simp only [RepTs]
theorem RepTs.cons {d : PyData} {v : V} {ds : List PyData} {vs : List V} (h : RepT K A B H d v) (r : RepTs K A B H ds vs) : RepTs K A B H (d :: ds) (v :: vs) := by
  simp only [RepTs]
  exact ⟨v, vs, rfl, h, r⟩
theorem RepTs.mono (hA : ∀ a, A' a → A a) (hB : ∀ a, B' a → B a) : ∀ {ds : List PyData} {vs : List V}, RepTs K A B H ds vs → RepTs K A' B' H ds vs
  | [], _, h => by simpa only [RepTs] using h
  | d :: ds, vs, h => by
    simp only [RepTs] at h
    obtain ⟨v, r, e, h1, h2⟩ := h
    subst e
    exact RepTs.cons (h1.mono hA hB) (RepTs.mono hA hB h2)
theorem RepTs.keep (kA : KeepA A H H') (kB : KeepA B H H') : ∀ {ds : List PyData} {vs : List V}, RepTs K A B H ds vs → RepTs K A B H' ds vs
  | [], _, h => by simpa only [RepTs] using h
  | d :: ds, vs, h => by
    simp only [RepTs] at h
    obtain ⟨v, r, e, h1, h2⟩ := h
    subst e
    exact RepTs.cons (h1.keep kA kB) (RepTs.keep kA kB h2)
theorem RepTs.one {d : PyData} {vs : List V} (h : RepTs K A B H [d] vs) : ∃ v, vs = [v] ∧ RepT K A B H d v := by
  simp only [RepTs] at h
  obtain ⟨v, r, rfl, h1, rfl⟩ := h
  exact ⟨v, rfl, h1⟩
theorem RepTs.two {d e : PyData} {vs : List V} (h : RepTs K A B H [d, e] vs) : ∃ v u, vs = [v, u] ∧ RepT K A B H d v ∧ RepT K A B H e u := by
  simp only [RepTs] at h
  obtain ⟨v, r, rfl, h1, u, r', rfl, h2, rfl⟩ := h
  exact ⟨v, u, rfl, h1, h2⟩
theorem RepTs.three {d e f : PyData} {vs : List V} (h : RepTs K A B H [d, e, f] vs) : ∃ v u w, vs = [v, u, w] ∧ RepT K A B H d v ∧ RepT K A B H e u ∧ RepT K A B H f w := by
  simp only [RepTs] at h
  obtain ⟨v, r, rfl, h1, u, r', rfl, h2, w, r'', rfl, h3, rfl⟩ := h
  exact ⟨v, u, w, rfl, h1, h2, h3⟩
def noA : Addr → Prop := fun _ => False
theorem RepT.no {d : PyData} {v : V} (h : RepT K A B H d v) : RepD K noA H d v := h.toD (fun _ z => z.elim) (fun _ z => z.elim)
theorem RepTs.toA : ∀ {ds : List PyData} {vs : List V}, RepTs K A B H ds vs → (∀ a, A' a → A a) → (∀ a, A' a → B a) → RepA K A' H ds vs
  | [], _, h, _, _ => by
    simp only [RepTs] at h
    subst h
    exact RepA.nil
  | d :: ds, vs, h, hA, hB => by
    simp only [RepTs] at h
    obtain ⟨v, r, e, h1, h2⟩ := h
    subst e
    exact RepA.cons (h1.toD hA hB) (RepTs.toA h2 hA hB)
end
/-! ### dicts by values -/
theorem key_eq {k k' : PyData} {a b : Key} (h : keyD k = some a) (h' : keyD k' = some b) : PyData.eqv k k' = decide (a = b) := by
  cases k with
  | int i =>
    simp only [keyD, Option.some.injEq] at h
    subst h
    cases k' with
    | int j =>
      simp only [keyD, Option.some.injEq] at h'
      subst h'
      show (i == j) = _
      by_cases e : i = j
      · subst e
        simp
      · rw [beq_eq_false_iff_ne.mpr e, decide_eq_false]
        intro q
        injection q with q
        exact e q
    | str j =>
      simp only [keyD, Option.some.injEq] at h'
      subst h'
      exact (decide_eq_false (by intro q; cases q)).symm
    | _ => simp [keyD] at h'
  | str i =>
    simp only [keyD, Option.some.injEq] at h
    subst h
    cases k' with
    | str j =>
      simp only [keyD, Option.some.injEq] at h'
      subst h'
      show (i == j) = _
      by_cases e : i = j
      · subst e
        simp
      · rw [beq_eq_false_iff_ne.mpr e, decide_eq_false]
        intro q
        injection q with q
        exact e q
    | int j =>
      simp only [keyD, Option.some.injEq] at h'
      subst h'
      exact (decide_eq_false (by intro q; cases q)).symm
    | _ => simp [keyD] at h'
  | _ => simp [keyD] at h
section
variable {K : PySem.W.Frag} {A : Addr → Prop} {H : Hp}
theorem RepK.nil : RepK K A H [] [] := by simp only [RepK]
theorem RepK.cons {k d : PyData} {kk : Key} {v : V} {kvs : List (PyData × PyData)} {vs : List (Key × V)} (hk : keyD k = some kk) (h : RepD K A H d v) (r : RepK K A H kvs vs) : RepK K A H ((k, d) :: kvs) ((kk, v) :: vs) := by
  simp only [RepK]
  exact ⟨kk, v, vs, rfl, hk, h, r⟩
theorem RepK.length : ∀ {kvs : List (PyData × PyData)} {vs : List (Key × V)}, RepK K A H kvs vs → kvs.length = vs.length
  | [], _, h => by
    simp only [RepK] at h
    subst h
    rfl
  | (k, d) :: kvs, vs, h => by
    simp only [RepK] at h
    obtain ⟨kk, v, r, e, _, _, h2⟩ := h
    rw [e, List.length_cons, List.length_cons, RepK.length h2]
theorem RepK.any {k : PyData} {kk : Key} (hk : keyD k = some kk) : ∀ {kvs : List (PyData × PyData)} {vs : List (Key × V)}, RepK K A H kvs vs → (kvs.any fun p => PyData.eqv p.1 k) = vs.any fun kv => decide (kv.1 = kk)
  | [], _, h => by
    simp only [RepK] at h
    subst h
    rfl
  | (k', d) :: kvs, vs, h => by
    simp only [RepK] at h
    obtain ⟨kk', v, r, e, h0, _, h2⟩ := h
    subst e
    rw [List.any_cons, List.any_cons, RepK.any hk h2, key_eq h0 hk]
theorem RepK.repl {k d : PyData} {kk : Key} {v : V} (hk : keyD k = some kk) (hd : RepD K A H d v) : ∀ {kvs : List (PyData × PyData)} {vs : List (Key × V)}, RepK K A H kvs vs →
    RepK K A H (kvs.map fun p => if PyData.eqv p.1 k = true then (p.1, d) else p) (vs.map fun kv => if kv.1 = kk then (kv.1, v) else kv)
  | [], _, h => by
    simp only [RepK] at h
    subst h
    exact RepK.nil
  | (k', d') :: kvs, vs, h => by
    simp only [RepK] at h
    obtain ⟨kk', v', r, e, h0, h1, h2⟩ := h
    subst e
    rw [List.map_cons, List.map_cons]
    have ih := RepK.repl hk hd h2
    have ek := key_eq h0 hk
    by_cases q : kk' = kk
    · rw [if_pos (by rw [ek]; exact decide_eq_true q), if_pos q]
      exact RepK.cons h0 hd ih
    · rw [if_neg (by rw [ek]; simpa using q), if_neg q]
      exact RepK.cons h0 h1 ih
theorem RepK.snoc {k d : PyData} {kk : Key} {v : V} (hk : keyD k = some kk) (hd : RepD K A H d v) : ∀ {kvs : List (PyData × PyData)} {vs : List (Key × V)}, RepK K A H kvs vs → RepK K A H (kvs ++ [(k, d)]) (vs ++ [(kk, v)])
  | [], _, h => by
    simp only [RepK] at h
    subst h
    exact RepK.cons hk hd RepK.nil
  | (k', d') :: kvs, vs, h => by
    simp only [RepK] at h
    obtain ⟨kk', v', r, e, h0, h1, h2⟩ := h
    subst e
    exact RepK.cons h0 h1 (RepK.snoc hk hd h2)
theorem RepK.put {k d : PyData} {kk : Key} {v : V} {kvs : List (PyData × PyData)} {vs : List (Key × V)} (hk : keyD k = some kk) (hd : RepD K A H d v) (r : RepK K A H kvs vs) : RepK K A H (putD kvs k d) (putK vs kk v) := by
  unfold putD putK
  rw [RepK.any hk r]
  by_cases q : (vs.any fun kv => decide (kv.1 = kk)) = true
  · rw [if_pos q, if_pos q]
    exact r.repl hk hd
  · rw [if_neg q, if_neg q]
    exact r.snoc hk hd
theorem RepK.puts : ∀ {more : List (PyData × PyData)} {ms : List (Key × V)} {kvs : List (PyData × PyData)} {vs : List (Key × V)}, RepK K A H more ms → RepK K A H kvs vs → RepK K A H (putsD kvs more) (mergeK vs ms)
  | [], ms, kvs, vs, m, r => by
    simp only [RepK] at m
    subst m
    exact r
  | (k, d) :: more, ms, kvs, vs, m, r => by
    simp only [RepK] at m
    obtain ⟨kk, v, ms', e, h0, h1, h2⟩ := m
    subst e
    show RepK K A H (putsD (putD kvs k d) more) (mergeK (putK vs kk v) ms')
    exact RepK.puts h2 (r.put h0 h1)
theorem keyOk_key {k : PyData} (h : keyOk k = true) : ∃ kk, keyD k = some kk ∧ ∀ {K : PySem.W.Frag} {A : Addr → Prop} {H : Hp} {v : V}, RepD K A H k v → v = kV kk := by
  cases k with
  | int i => exact ⟨.inl i, rfl, fun r => by
      simp only [RepD] at r
      exact r⟩
  | str i => exact ⟨.inr i, rfl, fun r => by
      simp only [RepD] at r
      exact r⟩
  | _ => simp [keyOk] at h
/-- pairs that lie in a list -/
theorem pairs_rep : ∀ {ds : List PyData} {kvs : List (PyData × PyData)} {vs : List V}, pairsOf ds = some kvs → (kvs.all fun p => keyOk p.1) = true → RepA K A H ds vs →
    ∃ (ps : List Addr) (kv : List (Key × V)), vs = ps.map V.ref ∧ Paired (fun p kv => SqT K H p [kV kv.1, kv.2]) ps kv ∧ RepK K A H kvs kv
  | [], kvs, vs, e, _, r => by
    simp only [pairsOf, Option.some.injEq] at e
    subst e
    simp only [RepA] at r
    subst r
    exact ⟨[], [], rfl, .nil, RepK.nil⟩
  | .tuple [k, v] :: ds, kvs, vs, e, ok, r => by
    simp only [pairsOf, Option.map_eq_some_iff] at e
    obtain ⟨more, e1, e2⟩ := e
    subst e2
    rw [List.all_cons, Bool.and_eq_true] at ok
    obtain ⟨kk, hk, hv⟩ := keyOk_key ok.1
    simp only [RepA, RepD] at r
    obtain ⟨x, rest, rfl, ⟨p, ws, rfl, s, v1, r1, e3, h1, v2, r2, e4, h2, e5⟩, rr⟩ := r
    subst e5 e4 e3
    obtain ⟨ps, kv, e6, pp, rk⟩ := pairs_rep e1 ok.2 rr
    subst e6
    have : v1 = kV kk := hv h1
    subst this
    exact ⟨p :: ps, (kk, v2) :: kv, rfl, .cons s.sq pp, RepK.cons hk h2 rk⟩
  | .tuple [] :: _, _, _, e, _, _ => by simp [pairsOf] at e
  | .tuple [_] :: _, _, _, e, _, _ => by simp [pairsOf] at e
  | .tuple (_ :: _ :: _ :: _) :: _, _, _, e, _, _ => by simp [pairsOf] at e
  | .none :: _, _, _, e, _, _ => by simp [pairsOf] at e
  | .bool _ :: _, _, _, e, _, _ => by simp [pairsOf] at e
  | .int _ :: _, _, _, e, _, _ => by simp [pairsOf] at e
  | .str _ :: _, _, _, e, _, _ => by simp [pairsOf] at e
  | .list _ :: _, _, _, e, _, _ => by simp [pairsOf] at e
  | .dict _ :: _, _, _, e, _, _ => by simp [pairsOf] at e
end
/-! ### order by values -/
theorem alikeB_of {xs : List PyData} (h : alikeB xs = true) : (∀ x ∈ xs, ∀ y ∈ xs, PySem.W.alike x y = true) ∧ PyData.depthAll xs ≤ 60 := by
  unfold alikeB at h
  rw [Bool.and_eq_true, List.all_eq_true] at h
  exact ⟨fun x hx y hy => List.all_eq_true.mp (h.1 x hx) y hy, of_decide_eq_true h.2⟩
theorem noNon_of {xs : List PyData} (h : noNon xs = true) : ∀ x ∈ xs, x ≠ .none ∧ ∀ ys, x ≠ .list ys := fun x hx => by
  unfold noNon at h
  have q := List.all_eq_true.mp h x hx
  refine ⟨fun e => ?_, fun ys e => ?_⟩
  · subst e
    cases q
  · subst e
    cases q
theorem fold_mem (f : PyData → PyData → Bool) : ∀ (xs : List PyData) (x : PyData), (xs.foldl (fun a y => if f a y = true then y else a) x) ∈ x :: xs
  | [], x => List.mem_cons_self
  | y :: ys, x => by
    rw [List.foldl_cons]
    have h := fold_mem f ys (if f x y = true then y else x)
    rcases List.mem_cons.mp h with e | h
    · rw [e]
      by_cases q : f x y = true
      · rw [if_pos q]
        exact List.mem_cons_of_mem _ List.mem_cons_self
      · rw [if_neg q]
        exact List.mem_cons_self
    · exact List.mem_cons_of_mem _ (List.mem_cons_of_mem _ h)
theorem maxD_mem (x : PyData) (xs : List PyData) : PySem.W.maxD x xs ∈ x :: xs := fold_mem (fun a y => PySem.W.dataLt a y) xs x
theorem minD_mem (x : PyData) (xs : List PyData) : PySem.W.minD x xs ∈ x :: xs := fold_mem (fun a y => PySem.W.dataLt y a) xs x
theorem sortB_of {xs : List PyData} (h : sortB xs = true) : PySem.W.Sortable xs := by
  unfold sortB at h
  rw [Bool.or_eq_true, List.all_eq_true, List.all_eq_true] at h
  rcases h with h | h
  · refine .inl fun d hd => ?_
    have q := h d hd
    cases d with
    | tuple ys =>
      cases ys with
      | nil => cases q
      | cons x r => exact ⟨x, r, rfl⟩
    | _ => cases q
  · refine .inr fun d hd => ?_
    have q := h d hd
    cases d with
    | none => cases q
    | tuple ys => cases q
    | bool b => exact ⟨nofun, fun _ => nofun⟩
    | int b => exact ⟨nofun, fun _ => nofun⟩
    | str b => exact ⟨nofun, fun _ => nofun⟩
    | list b => exact ⟨nofun, fun _ => nofun⟩
    | dict b => exact ⟨nofun, fun _ => nofun⟩
theorem depth_mem : ∀ {xs : List PyData} {x : PyData}, x ∈ xs → x.depth ≤ PyData.depthAll xs
  | y :: ys, x, h => by
    simp only [PyData.depthAll]
    rcases List.mem_cons.mp h with e | h
    · subst e
      exact Nat.le_max_left _ _
    · exact Nat.le_trans (depth_mem h) (Nat.le_max_right _ _)
/-- values that hold data, together -/
theorem each_of {K : PySem.W.Frag} {A : Addr → Prop} {H : Hp} : ∀ {ds : List PyData} {vs : List V} {us : List Value}, RepA K A H ds vs → Vals vs us → PySem.W.EachIs (fun (u : Value) (d : PyData) => ∃ v, RelV v u ∧ RepD K A H d v) us ds
  | [], vs, us, r, q => by
    simp only [RepA] at r
    subst r
    cases q
    exact .nil
  | d :: ds, vs, us, r, q => by
    simp only [RepA] at r
    obtain ⟨v, r', e, h1, h2⟩ := r
    subst e
    cases q with
    | cons q1 q2 => exact .cons ⟨v, q1, h1⟩ (each_of h2 q2)
theorem of_each {K : PySem.W.Frag} {A : Addr → Prop} {H : Hp} : ∀ {us : List Value} {ds : List PyData}, PySem.W.EachIs (fun (u : Value) (d : PyData) => ∃ v, RelV v u ∧ RepD K A H d v) us ds → ∃ vs, Vals vs us ∧ RepA K A H ds vs
  | _, _, .nil => ⟨[], .nil, RepA.nil⟩
  | _, _, .cons ⟨v, q1, h1⟩ t => by
    obtain ⟨vs, q2, h2⟩ := of_each t
    exact ⟨v :: vs, .cons q1 q2, RepA.cons h1 h2⟩

/-! ### the builtins -/
def biV : BI → Value
  | .len => .builtin "len"
  | .tuple => .type "tuple"
  | .list => .type "list"
  | .all => .builtin "all"
  | .any => .builtin "any"
  | .sum => .builtin "sum"
  | .max1 => .builtin "max"
  | .min1 => .builtin "min"
  | .max2 => .builtin "max"
  | .min2 => .builtin "min"
  | .sorted => .builtin "sorted"
  | .int => .type "int"
  | .abs => .builtin "abs"
  | .repr => .builtin "repr"
  | .str => .type "str"
  | .dict => .type "dict"
def rBi (K : PySem.W.Frag) (f : BI) : List V → Hp → VK → Prop := fun vs H Q => ∃ (A B : Addr → Prop) (ds : List PyData) (d : PyData), RepTs K A B H ds vs ∧ (∀ a, B a → ∃ o, H a = some o) ∧ biD f ds = some d ∧ Hands K B H d Q
section
variable {X : Cx}
theorem bi_len : CallR X (biV .len) (rBi X.K .len) := by
  intro pins s σ H vs us Q I r ⟨A, B, ds, d, hr, hB, e, q⟩
  match ds, e with
  | [.list xs], e =>
    obtain ⟨v, rfl, hv⟩ := hr.one
    simp only [biD, Option.some.injEq] at e
    subst e
    obtain ⟨a, ws, rfl, s1, ra⟩ := hv
    have q' := q.int
    rw [ra.length] at q'
    exact call_len_seq pins s σ H _ us Q I r ⟨a, ws, rfl, .inl s1.sq, q'⟩
  | [.tuple xs], e =>
    obtain ⟨v, rfl, hv⟩ := hr.one
    simp only [biD, Option.some.injEq] at e
    subst e
    simp only [RepT, RepD] at hv
    obtain ⟨a, ws, rfl, s1, ra⟩ := hv
    have q' := q.int
    rw [ra.length] at q'
    exact call_len_seq pins s σ H _ us Q I r ⟨a, ws, rfl, .inr s1.sq, q'⟩
  | [.dict xs], e =>
    obtain ⟨v, rfl, hv⟩ := hr.one
    simp only [biD, Option.some.injEq] at e
    subst e
    obtain ⟨a, ws, rfl, s1, ra⟩ := hv
    have q' := q.int
    rw [ra.length] at q'
    rw [Vals.ref1 r]
    exact d_len I s1.1 fun t s' I' => ⟨.int ws.length, H, I', ⟨t, rfl⟩, q'⟩
theorem bi_tuple : CallR X (biV .tuple) (rBi X.K .tuple) := by
  intro pins s σ H vs us Q I r ⟨A, B, ds, d, hr, hB, e, q⟩
  match ds, e with
  | [.list xs], e =>
    obtain ⟨v, rfl, hv⟩ := hr.one
    simp only [biD, Option.some.injEq] at e
    subst e
    obtain ⟨a, ws, rfl, s1, ra⟩ := hv
    exact call_tupleP pins s σ H _ us Q I r ⟨a, ws, rfl, .inl ⟨s1.sq, q.tup hB ra⟩⟩
  | [.tuple xs], e =>
    obtain ⟨v, rfl, hv⟩ := hr.one
    simp only [biD, Option.some.injEq] at e
    subst e
    have hv' := hv
    simp only [RepT, RepD] at hv'
    obtain ⟨a, ws, rfl, s1, ra⟩ := hv'
    exact call_tuple_of pins s σ H _ us Q I r ⟨a, ws, rfl, .inr ⟨s1.sq, q.same hv (by simp)⟩⟩
theorem bi_list : CallR X (biV .list) (rBi X.K .list) := by
  intro pins s σ H vs us Q I r ⟨A, B, ds, d, hr, hB, e, q⟩
  match ds, e with
  | [.list xs], e =>
    obtain ⟨v, rfl, hv⟩ := hr.one
    simp only [biD, Option.some.injEq] at e
    subst e
    obtain ⟨a, ws, rfl, s1, ra⟩ := hv
    exact call_list_of pins s σ H _ us Q I r ⟨a, ws, rfl, .inl s1.sq, fun l hl => q.lst hB ra hl⟩
  | [.tuple xs], e =>
    obtain ⟨v, rfl, hv⟩ := hr.one
    simp only [biD, Option.some.injEq] at e
    subst e
    simp only [RepT, RepD] at hv
    obtain ⟨a, ws, rfl, s1, ra⟩ := hv
    exact call_list_of pins s σ H _ us Q I r ⟨a, ws, rfl, .inr s1.sq, fun l hl => q.lst hB ra hl⟩
theorem bi_all (hc : X.calm = true) : CallR X (biV .all) (rBi X.K .all) := by
  intro pins s σ H vs us Q I r ⟨A, B, ds, d, hr, hB, e, q⟩
  match ds, e with
  | [.list xs], e =>
    obtain ⟨v, rfl, hv⟩ := hr.one
    simp only [biD, Option.map_eq_some_iff] at e
    obtain ⟨bs, e1, e2⟩ := e
    subst e2
    obtain ⟨a, ws, rfl, s1, ra⟩ := hv
    rw [boolsOf_eq e1] at ra
    rw [ra.bools] at s1
    exact cr_all hc pins s σ H _ us Q I r ⟨a, bs, rfl, s1.sq, q.bool⟩
theorem bi_any (hc : X.calm = true) : CallR X (biV .any) (rBi X.K .any) := by
  intro pins s σ H vs us Q I r ⟨A, B, ds, d, hr, hB, e, q⟩
  match ds, e with
  | [.list xs], e =>
    obtain ⟨v, rfl, hv⟩ := hr.one
    simp only [biD, Option.map_eq_some_iff] at e
    obtain ⟨bs, e1, e2⟩ := e
    subst e2
    obtain ⟨a, ws, rfl, s1, ra⟩ := hv
    rw [boolsOf_eq e1] at ra
    rw [ra.bools] at s1
    exact cr_any hc pins s σ H _ us Q I r ⟨a, bs, rfl, s1.sq, q.bool⟩
theorem sum_take (l : List Int) : preSum (fun i => l.getD i 0) l.length = l.sum := by rw [preSum_getD, List.take_length]
theorem ints_getD : ∀ {us : List Value} {ns : List Int}, IntsAre us ns → ∀ (i : Nat) (v : Value), us[i]? = some v → ∃ t, v = .int (ns.getD i 0) t
  | _, _, .cons n t r, 0, v, e => by
    have e' : Value.int n t = v := by simpa using e
    exact ⟨t, by rw [← e']; rfl⟩
  | _, _, .cons n t r, i + 1, v, e => by
    obtain ⟨t', e'⟩ := ints_getD r i v (by simpa using e)
    exact ⟨t', by simpa using e'⟩
  | _, _, .nil, _, _, e => by simp at e
theorem bi_sum (hc : X.calm = true) : CallR X (biV .sum) (rBi X.K .sum) := by
  intro pins s σ H vs us Q I r ⟨A, B, ds, d, hr, hB, e, q⟩
  match ds, e with
  | [.list xs], e =>
    obtain ⟨v, rfl, hv⟩ := hr.one
    simp only [biD, Option.map_eq_some_iff] at e
    obtain ⟨bs, e1, e2⟩ := e
    subst e2
    obtain ⟨a, ws, rfl, s1, ra⟩ := hv
    rw [intsOf_eq e1] at ra
    rw [ra.ints] at s1
    exact cr_sum hc pins s σ H _ us Q I r ⟨a, bs, rfl, s1.sq, q.int⟩
  | [.tuple xs], e =>
    obtain ⟨v, rfl, hv⟩ := hr.one
    simp only [biD, Option.map_eq_some_iff] at e
    obtain ⟨ns, e1, e2⟩ := e
    subst e2
    simp only [RepT, RepD] at hv
    obtain ⟨a, ws, rfl, s1, ra⟩ := hv
    rw [intsOf_eq e1] at ra
    rw [ra.ints] at s1
    rw [Vals.ref1 r]
    obtain ⟨its, rv, pl, _⟩ := I.tuple s1.sq
    have hi := rv.ints
    refine call_sum_walkAnyS (PySem.W.iter_tupleW (A := X.A.in1) (I.ok.hd hc) pl fun s₂ e W st hfp hw hk => ?_)
    refine ⟨_, _, _, _, _, _, _, fun i => ns.getD i 0, rfl, W, st, hfp, fun i v hv => ints_getD hi i v (by simpa using hv), fun s' t' m => ?_⟩
    obtain ⟨h', tk, rfl, hk'⟩ := PySem.W.moved_old e rfl m
    have hl : its.toArray.size = ns.length := by rw [List.size_toArray, ← rv.length, List.length_map]
    rw [hl, sum_take]
    exact ⟨.int _, H, I.kept hk', ⟨_, rfl⟩, q.int⟩
theorem det {h : Heap} {v : Value} {d d' : PyData} {as as' : List Addr} (r : Reads h v d as) (r' : Reads h v d' as') : d' = d := (PyProof.Rows.reads_det (fun _ _ e _ => e) r r').1
theorem max_end {pins : List (Addr × Obj)} {s : Shared} {σ : L2.St} {H : Hp} {B : Addr → Prop} {ds : List PyData} {vs : List V} {its : List Value} {d : PyData} {Q : VK} (I : Inv X pins σ H s) (ra : RepA X.K B H ds vs) (rv : Vals vs its) (q : Hands X.K B H d Q)
    {i : Nat} {v : Value} {h' : Heap} {tk : Nat} {bs : List Addr} (e : its.toArray[i]? = some v) (rd : Reads h' v d bs) (hk : ∀ b o, s.heap.get? b = some o → h'.get? b = some o) (hn : ∀ xs, d ≠ .list xs) : EP X pins σ Q v { s with heap := h', toks := tk } := by
  have hl := Vals.length rv
  have e0 : its[i]? = some v := by simpa using e
  have hi : i < vs.length := by
    rw [hl]
    rcases Nat.lt_or_ge i its.length with h | h
    · exact h
    · rw [List.getElem?_eq_none h] at e0; cases e0
  obtain ⟨u, e2, r1⟩ := Vals.get rv (List.getElem?_eq_getElem hi)
  rw [e0] at e2; cases e2
  obtain ⟨d', e2, r2⟩ := ra.getV (List.getElem?_eq_getElem hi)
  have I' : Inv X pins σ H { s with heap := h', toks := tk } := I.kept hk
  obtain ⟨as, r3⟩ := RepD.reads I' d' _ _ r2 r1
  have : d' = d := det rd r3
  subst this
  exact ⟨_, H, I', r1, q.same r2 hn⟩
theorem max1_of {ds : List PyData} {d : PyData} (e : biD .max1 ds = some d) : ∃ x xs, (ds = [.list (x :: xs)] ∨ ds = [.tuple (x :: xs)]) ∧ alikeB (x :: xs) = true ∧ noNon (x :: xs) = true ∧ d = PySem.W.maxD x xs := by
  match ds with
  | [] => cases e
  | _ :: _ :: _ => cases e
  | [y] =>
    have e' : (match itemsOf y with
      | some (x :: xs) => if alikeB (x :: xs) = true ∧ noNon (x :: xs) = true then some (PySem.W.maxD x xs) else none
      | _ => none) = some d := e
    cases y with
    | list xs =>
      cases xs with
      | nil => cases e'
      | cons x xs =>
        have e2 : (if alikeB (x :: xs) = true ∧ noNon (x :: xs) = true then some (PySem.W.maxD x xs) else none) = some d := e'
        split at e2
        · rename_i h
          simp only [Option.some.injEq] at e2
          exact ⟨x, xs, .inl rfl, h.1, h.2, e2.symm⟩
        · cases e2
    | tuple xs =>
      cases xs with
      | nil => cases e'
      | cons x xs =>
        have e2 : (if alikeB (x :: xs) = true ∧ noNon (x :: xs) = true then some (PySem.W.maxD x xs) else none) = some d := e'
        split at e2
        · rename_i h
          simp only [Option.some.injEq] at e2
          exact ⟨x, xs, .inr rfl, h.1, h.2, e2.symm⟩
        · cases e2
    | _ => cases e'
theorem bi_max1 (hc : X.calm = true) (hu : X.A.units + 100 < cLine) : CallR X (biV .max1) (rBi X.K .max1) := by
  intro pins s σ H vs us Q I r ⟨A, B, ds, d, hr, hB, e, q⟩
  obtain ⟨x, xs, hd, k1, k2, rfl⟩ := max1_of e
  obtain ⟨h1, h2⟩ := alikeB_of k1
  have h3 := noNon_of k2
  rcases hd with rfl | rfl
  · obtain ⟨v, rfl, hv⟩ := hr.one
    obtain ⟨a, ws, rfl, s1, ra⟩ := hv
    rw [Vals.ref1 r]
    obtain ⟨its, rv, pl, _⟩ := I.list s1.sq
    obtain ⟨as, rd⟩ := RepA.reads I _ _ _ ra rv
    exact PySem.W.max_list_data (vs := its.toArray) (I.ok.hd hc) pl.isList rd ⟨h1, fun y hy => (h3 y hy).1⟩ (by omega) fun i v h' tk bs e rd' hk => max_end I ra rv q e rd' hk (h3 _ (maxD_mem x xs)).2
  · obtain ⟨v, rfl, hv⟩ := hr.one
    simp only [RepT] at hv
    unfold RepD at hv
    obtain ⟨a, ws, rfl, s1, ra⟩ := hv
    rw [Vals.ref1 r]
    obtain ⟨its, rv, pl, _⟩ := I.tuple s1.sq
    obtain ⟨as, rd⟩ := RepA.reads I _ _ _ ra rv
    exact PySem.W.max_tuple_data (vs := its.toArray) (I.ok.hd hc) pl rd ⟨h1, fun y hy => (h3 y hy).1⟩ (by omega) fun i v h' tk bs e rd' hk => max_end I ra rv q e rd' hk (h3 _ (maxD_mem x xs)).2
theorem min1_of {ds : List PyData} {d : PyData} (e : biD .min1 ds = some d) : ∃ x xs, (ds = [.list (x :: xs)] ∨ ds = [.tuple (x :: xs)]) ∧ alikeB (x :: xs) = true ∧ noNon (x :: xs) = true ∧ d = PySem.W.minD x xs := by
  match ds with
  | [] => cases e
  | _ :: _ :: _ => cases e
  | [y] =>
    have e' : (match itemsOf y with
      | some (x :: xs) => if alikeB (x :: xs) = true ∧ noNon (x :: xs) = true then some (PySem.W.minD x xs) else none
      | _ => none) = some d := e
    cases y with
    | list xs =>
      cases xs with
      | nil => cases e'
      | cons x xs =>
        have e2 : (if alikeB (x :: xs) = true ∧ noNon (x :: xs) = true then some (PySem.W.minD x xs) else none) = some d := e'
        split at e2
        · rename_i h
          simp only [Option.some.injEq] at e2
          exact ⟨x, xs, .inl rfl, h.1, h.2, e2.symm⟩
        · cases e2
    | tuple xs =>
      cases xs with
      | nil => cases e'
      | cons x xs =>
        have e2 : (if alikeB (x :: xs) = true ∧ noNon (x :: xs) = true then some (PySem.W.minD x xs) else none) = some d := e'
        split at e2
        · rename_i h
          simp only [Option.some.injEq] at e2
          exact ⟨x, xs, .inr rfl, h.1, h.2, e2.symm⟩
        · cases e2
    | _ => cases e'
theorem bi_min1 (hc : X.calm = true) (hu : X.A.units + 100 < cLine) : CallR X (biV .min1) (rBi X.K .min1) := by
  intro pins s σ H vs us Q I r ⟨A, B, ds, d, hr, hB, e, q⟩
  obtain ⟨x, xs, hd, k1, k2, rfl⟩ := min1_of e
  obtain ⟨h1, h2⟩ := alikeB_of k1
  have h3 := noNon_of k2
  rcases hd with rfl | rfl
  · obtain ⟨v, rfl, hv⟩ := hr.one
    obtain ⟨a, ws, rfl, s1, ra⟩ := hv
    rw [Vals.ref1 r]
    obtain ⟨its, rv, pl, _⟩ := I.list s1.sq
    obtain ⟨as, rd⟩ := RepA.reads I _ _ _ ra rv
    exact PySem.W.min_list_data (vs := its.toArray) (I.ok.hd hc) pl.isList rd ⟨h1, fun y hy => (h3 y hy).1⟩ (by omega) fun i v h' tk bs e rd' hk => max_end I ra rv q e rd' hk (h3 _ (minD_mem x xs)).2
  · obtain ⟨v, rfl, hv⟩ := hr.one
    simp only [RepT] at hv
    unfold RepD at hv
    obtain ⟨a, ws, rfl, s1, ra⟩ := hv
    rw [Vals.ref1 r]
    obtain ⟨its, rv, pl, _⟩ := I.tuple s1.sq
    obtain ⟨as, rd⟩ := RepA.reads I _ _ _ ra rv
    exact PySem.W.min_tuple_data (vs := its.toArray) (I.ok.hd hc) pl rd ⟨h1, fun y hy => (h3 y hy).1⟩ (by omega) fun i v h' tk bs e rd' hk => max_end I ra rv q e rd' hk (h3 _ (minD_mem x xs)).2
theorem bi_max2 (hc : X.calm = true) : CallR X (biV .max2) (rBi X.K .max2) := by
  intro pins s σ H vs us Q I r ⟨A, B, ds, d, hr, hB, e, q⟩
  match ds, e with
  | [.int a, .int b], e =>
    obtain ⟨v, u, rfl, h1, h2⟩ := hr.two
    simp only [biD, Option.some.injEq] at e
    subst e
    obtain rfl : v = .int a := h1
    obtain rfl : u = .int b := h2
    exact call_max2 hc pins s σ H _ us Q I r ⟨a, b, rfl, q.int⟩
theorem bi_min2 (hc : X.calm = true) : CallR X (biV .min2) (rBi X.K .min2) := by
  intro pins s σ H vs us Q I r ⟨A, B, ds, d, hr, hB, e, q⟩
  match ds, e with
  | [.int a, .int b], e =>
    obtain ⟨v, u, rfl, h1, h2⟩ := hr.two
    simp only [biD, Option.some.injEq] at e
    subst e
    obtain rfl : v = .int a := h1
    obtain rfl : u = .int b := h2
    exact call_min2 hc pins s σ H _ us Q I r ⟨a, b, rfl, q.int⟩
theorem bi_int : CallR X (biV .int) (rBi X.K .int) := by
  intro pins s σ H vs us Q I r ⟨A, B, ds, d, hr, hB, e, q⟩
  match ds, e with
  | [.int a], e =>
    obtain ⟨v, rfl, h1⟩ := hr.one
    simp only [biD, Option.some.injEq] at e
    subst e
    obtain rfl : v = .int a := h1
    exact call_int1 pins s σ H _ us Q I r (.inl ⟨a, rfl, q.int⟩)
  | [.bool a], e =>
    obtain ⟨v, rfl, h1⟩ := hr.one
    simp only [biD, Option.some.injEq] at e
    subst e
    obtain rfl : v = .bl a := h1
    exact call_int1 pins s σ H _ us Q I r (.inr ⟨a, rfl, q.int⟩)
theorem bi_abs : CallR X (biV .abs) (rBi X.K .abs) := by
  intro pins s σ H vs us Q I r ⟨A, B, ds, d, hr, hB, e, q⟩
  match ds, e with
  | [.int a], e =>
    obtain ⟨v, rfl, h1⟩ := hr.one
    simp only [biD, Option.some.injEq] at e
    subst e
    obtain rfl : v = .int a := h1
    exact call_abs pins s σ H _ us Q I r ⟨a, rfl, q.int⟩
theorem bi_str : CallR X (biV .str) (rBi X.K .str) := by
  intro pins s σ H vs us Q I r ⟨A, B, ds, d, hr, hB, e, q⟩
  match ds, e with
  | [.int a], e =>
    obtain ⟨v, rfl, h1⟩ := hr.one
    simp only [biD] at e
    split at e
    · simp only [Option.some.injEq] at e
      subst e
      obtain rfl : v = .int a := h1
      exact call_str_int pins s σ H _ us Q I r ⟨a, rfl, by omega, q.str⟩
    · cases e
theorem bi_dict (hc : X.calm = true) : CallR X (biV .dict) (rBi X.K .dict) := by
  intro pins s σ H vs us Q I r ⟨A, B, ds, d, hr, hB, e, q⟩
  match ds, e with
  | [.list xs], e =>
    obtain ⟨v, rfl, hv⟩ := hr.one
    simp only [biD] at e
    split at e
    · rename_i kvs e1
      split at e
      · rename_i hk
        simp only [Option.some.injEq] at e
        subst e
        obtain ⟨a, ws, rfl, s1, ra⟩ := hv
        obtain ⟨ps, kv, e2, pp, rk⟩ := pairs_rep e1 hk ra
        subst e2
        refine call_dictP hc pins s σ H _ us Q I r ⟨a, ps, kv, rfl, s1.sq, pp, fun p hp => ?_⟩
        have na : ¬ B p := fun z => by
          obtain ⟨o, e⟩ := hB p z
          rw [hp] at e; cases e
        have g := grow_upd (o := .dK (mergeK [] kv)) hp
        have rk' : RepK X.K B (upd H p (.dK (mergeK [] kv))) (putsD [] kvs) (mergeK [] kv) := RepK.keep (fun a o e _ => g a o e) _ _ (RepK.puts rk RepK.nil)
        refine q _ _ g ?_ fun xs e => by cases e
        simp only [RepD]
        exact ⟨p, _, rfl, ⟨.inl upd_same, na⟩, rk'⟩
      · cases e
    · cases e
theorem bi_sorted (hu : X.A.units + 100 < cLine) : CallR X (biV .sorted) (rBi X.K .sorted) := by
  intro pins s σ H vs us Q I r ⟨A, B, ds, d, hr, hB, e, q⟩
  match ds, e with
  | [.list xs], e =>
    obtain ⟨v, rfl, hv⟩ := hr.one
    simp only [biD, Option.map_eq_some_iff] at e
    obtain ⟨ys, e1, e2⟩ := e
    subst e2
    unfold sortD at e1
    split at e1
    · rename_i hk
      simp only [Option.some.injEq] at e1
      subst e1
      obtain ⟨h1, h2⟩ := alikeB_of hk.1
      obtain ⟨a, ws, rfl, s1, ra⟩ := hv
      rw [Vals.ref1 r]
      obtain ⟨its, rv, pl, hz⟩ := I.list s1.sq
      have hlim := lim_line
      have em : xs.map (fun d => d) = xs := List.map_id' xs
      refine PySem.W.sorted_data (enc := fun d => d) (R := fun (u : Value) (d : PyData) => ∃ v, RelV v u ∧ RepD X.K B H d v) pl.isList (each_of ra rv) ((each_of ra rv).mono fun u d ⟨v, r1, r2⟩ => RepD.reads I d _ _ r2 r1)
        (by rw [em]; exact fun d hd d' hd' => h1 d hd d' hd') (by rw [em]; exact sortB_of hk.2.1) (by omega) (fun b hb => by have := depth_mem hb; omega) fun out hlen ho => ?_
      obtain ⟨vs', rv', ra'⟩ := of_each ho
      obtain ⟨ep, he'⟩ := PyProof.Rows.sortedAll_at s.heap its out.toArray
      have hl' : vs'.length ≤ sizeLine := by
        rw [Vals.length rv', hlen]
        omega
      exact ⟨.ref _, upd H (s.heap.objs.size + 1) (.lst vs'), I.laid (t' := s.toks) (fun _ _ => PyProof.Rows.sortedAll_old) (Nat.le_succ _) ⟨hl', out, ep, rv', he'⟩, rfl, q.lst hB ra' (I.hok.fresh (Nat.le_succ _))⟩
    · cases e1
theorem bi_repr (hg : X.A.guards = some []) (hu : X.A.units + 100 < cLine) : CallR X (biV .repr) (rBi X.K .repr) := by
  intro pins s σ H vs us Q I r ⟨A, B, ds, d, hr, hB, e, q⟩
  match ds, e with
  | [x], e =>
    obtain ⟨v, rfl, hv⟩ := hr.one
    simp only [biD] at e
    split at e
    · rename_i hk
      rw [Bool.and_eq_true, Bool.and_eq_true, Bool.and_eq_true, decide_eq_true_eq, decide_eq_true_eq] at hk
      obtain ⟨⟨⟨h1, h2⟩, h3⟩, h4⟩ := hk
      simp only [Option.some.injEq] at e
      subst e
      obtain ⟨u, rfl, ru⟩ := vals1 r
      have hlim := lim_line
      have hz : x.shown.length ≤ sizeLine := by omega
      obtain ⟨as, rd, hn⟩ := RepD.reads2 I _ _ _ hv.no ru
      have hsm : x.hasDict = true → sysModules ∉ as := fun hd => hn (by
        rw [hd] at h4
        simpa using h4)
      cases x with
      | none =>
        cases rd
        exact PySem.P.repr_of_none ⟨.str _, H, I.tok _, ⟨_, rfl⟩, q.str⟩
      | bool b =>
        cases rd
        exact PySem.P.repr_of_bool ⟨.str _, H, I.tok _, ⟨_, rfl⟩, q.str⟩
      | int i =>
        cases rd
        exact PySem.P.repr_of_int (by simpa [PyData.showable] using h1) ⟨.str _, H, I.tok _, ⟨_, rfl⟩, q.str⟩
      | str y =>
        cases rd
        exact PySem.P.repr_of_str ⟨.str _, H, I.tok _, ⟨_, rfl⟩, q.str⟩ (by simpa only [PyData.shown] using hz)
      | list xs =>
        have ⟨a, ea⟩ : ∃ a, u = .ref a := by cases rd; exact ⟨_, rfl⟩
        subst ea
        exact repr_of_reads' rd h1 hsm hg (by omega) (fun _ _ e => e) (fun h' t tk hk => ⟨.str _, H, I.kept hk, ⟨_, rfl⟩, q.str⟩) hz
      | tuple xs =>
        have ⟨a, ea⟩ : ∃ a, u = .ref a := by cases rd; exact ⟨_, rfl⟩
        subst ea
        exact repr_of_reads' rd h1 hsm hg (by omega) (fun _ _ e => e) (fun h' t tk hk => ⟨.str _, H, I.kept hk, ⟨_, rfl⟩, q.str⟩) hz
      | dict xs =>
        have ⟨a, ea⟩ : ∃ a, u = .ref a := by cases rd; exact ⟨_, rfl⟩
        subst ea
        exact repr_of_reads' rd h1 hsm hg (by omega) (fun _ _ e => e) (fun h' t tk hk => ⟨.str _, H, I.kept hk, ⟨_, rfl⟩, q.str⟩) hz
    · cases e
/-- any builtin -/
theorem bi_ok (hc : X.calm = true) (hg : X.A.guards = some []) (hu : X.A.units + 100 < cLine) (f : BI) : CallR X (biV f) (rBi X.K f) := by
  cases f with
  | len => exact bi_len
  | tuple => exact bi_tuple
  | list => exact bi_list
  | all => exact bi_all hc
  | any => exact bi_any hc
  | sum => exact bi_sum hc
  | max1 => exact bi_max1 hc hu
  | min1 => exact bi_min1 hc hu
  | max2 => exact bi_max2 hc
  | min2 => exact bi_min2 hc
  | sorted => exact bi_sorted hu
  | int => exact bi_int
  | abs => exact bi_abs
  | repr => exact bi_repr hg hu
  | str => exact bi_str
  | dict => exact bi_dict hc
end
end Hx

set_option Elab.async false
set_option linter.all false
set_option maxRecDepth 100000
set_option maxHeartbeats 4000000
/-! H7: the language's forms over HandS's readings: names, constants, operations, tests. -/
namespace Hx
open PySem PySem.Spec PyProof.Rows L2

def dis (md al : List Nat) : Bool := md.all fun i => !al.contains i
def subL (a b : List Nat) : Bool := a.all fun i => b.contains i
theorem dis_of {md al : List Nat} (h : dis md al = true) : ∀ i ∈ md, i ∉ al := fun i hi z => by
  have := List.all_eq_true.mp h i hi
  simp [z] at this
theorem subL_of {a b : List Nat} (h : subL a b = true) : ∀ i ∈ a, i ∈ b := fun i hi => by
  have := List.all_eq_true.mp h i hi
  simpa using this
section
variable {K : PySem.W.Frag} {ER : ERel} {W : WX} {Z : Zone} {G md al el : List Nat} {ρ ρ' : Env} {σ : L2.St} {H H' H1 H2 : Hp}
theorem Kp.av (k : Kp md σ H H') (h1 : subL md G = true) (h2 : dis md al = true) : KeepA (Av Z G al σ) H H' := k.keepA fun i hi => ⟨subL_of h1 i hi, dis_of h2 i hi⟩
theorem Kp.left {m1 m2 : List Nat} (k : Kp m1 σ H H') : Kp (m1 ++ m2) σ H H' := k.mono fun i hi => List.mem_append_left _ hi
theorem Kp.right {m1 m2 : List Nat} (k : Kp m2 σ H H') : Kp (m1 ++ m2) σ H H' := k.mono fun i hi => List.mem_append_right _ hi
theorem Kp.grow (k : ∀ a o, H a = some o → H' a = some o) : Kp md σ H H' := fun a o e _ => k a o e
/-- what stands at the start stands later -/
theorem Rep.older (R : Rep K Z G ρ σ H') (k : Kp md σ H H') (h : subL md G = true) {p : Addr} (hp : H' p = none) : H p = none := by
  cases e : H p with
  | none => rfl
  | some o =>
    exfalso
    by_cases q : ∃ i, i ∈ md ∧ At σ i p
    · obtain ⟨i, hi, a⟩ := q
      obtain ⟨p', xs, vs, _, a', e', _⟩ := R.own i (subL_of h i hi)
      have : p' = p := by
        have z := a'.symm.trans a
        simpa using z
      subst this
      rw [hp] at e'; cases e'
    · have := k p o e fun i hi a => q ⟨i, hi, a⟩
      rw [hp] at this; cases this
theorem av_el (h : subL el al = true) : ∀ a, Av Z G al σ a → Av Z G el σ a := fun a => Av.mono (subL_of h)
/-- a new list stays as it is -/
theorem Frsh.later {B : Addr → Prop} {d : PyData} {v : V} (f : Frsh K B H H1 d v) (R : Rep K Z G ρ σ H) (hm : subL md G = true) (k : Kp md σ H1 H2) (kB : KeepA B H1 H2) : Frsh K B H H2 d v := by
  obtain ⟨p, xs, vs, e1, e2, e3, e4, r⟩ := f
  refine ⟨p, xs, vs, e1, e2, e3, k p _ e4 fun i hi a => ?_, RepA.keep (fun a o e n => kB a o e fun z => n (.inl z)) _ _ r⟩
  obtain ⟨p', xs', vs', _, a', e', _⟩ := R.own i (subL_of hm i hi)
  have : p' = p := by
    have z := a'.symm.trans a
    simpa using z
  subst this
  rw [e3] at e'; cases e'
end
section
variable {K : PySem.W.Frag} {Z : Zone} {G : List Nat} {ρ : Env} {σ : L2.St} {H H' : Hp}
theorem at_inj {i : Nat} {p q : Addr} (a : At σ i p) (b : At σ i q) : p = q := by
  have z := a.symm.trans b
  simpa using z
theorem av_plus {al : List Nat} {D a : Addr} : Av (Z.plus D) G al σ a ↔ Av Z G al σ a ∨ a = D := by
  constructor
  · rintro ((z | z) | z)
    · exact .inl (.inl z)
    · exact .inr z
    · exact .inl (.inr z)
  · rintro ((z | z) | z)
    · exact .inl (.inl z)
    · exact .inr z
    · exact .inl (.inr z)
/-- a new object stands at D; what the slots hold avoids it -/
theorem Rep.enterG (R : Rep K Z G ρ σ H) {D : Addr} (hD : H D = none) (g : ∀ a o, H a = some o → H' a = some o) (hD' : ∃ o, H' D = some o) : Rep K (Z.plus D) G ρ σ H' := by
  have mo : ∀ a, Av (Z.plus D) G [] σ a → Av Z G [] σ a ∨ a = D := fun a => av_plus.mp
  refine ⟨R.len, fun j d' e n => ?_, fun j gj => ?_, R.dis, fun j p gj a z => ?_, R.fr0, R.byr, fun a u e n => g a u (R.keep a u e n), fun a z => ?_⟩
  · obtain ⟨u, e1, r1⟩ := R.val j d' e n
    exact ⟨u, e1, RepD.keep (fun a u e _ => g a u e) _ _ (RepD.mono mo _ _ (RepD.fresh hD _ _ r1))⟩
  · obtain ⟨p, xs, vs, e1, q, e2, r1⟩ := R.own j gj
    exact ⟨p, xs, vs, e1, q, g _ _ e2, RepA.keep (fun a u e _ => g a u e) _ _ (RepA.mono mo _ _ (RepA.fresh hD _ _ r1))⟩
  · rcases z with z | z
    · exact R.m0 j p gj a z
    · obtain ⟨p', _, _, _, q, e2, _⟩ := R.own j gj
      obtain rfl := at_inj q a
      rw [z, hD] at e2
      cases e2
  · rcases z with z | z
    · obtain ⟨u, e⟩ := R.m1 a z
      exact ⟨u, g a u e⟩
    · rw [z]
      exact hD'
/-- forgetting that it is avoided -/
theorem Rep.minus {D : Addr} (R : Rep K (Z.plus D) G ρ σ H) : Rep K Z G ρ σ H := by
  have mo : ∀ a, Av Z G [] σ a → Av (Z.plus D) G [] σ a := fun a z => av_plus.mpr (.inl z)
  refine ⟨R.len, fun j d' e n => ?_, fun j gj => ?_, R.dis, fun j p gj a z => R.m0 j p gj a (.inl z), R.fr0, R.byr, R.keep, fun a z => R.m1 a (.inl z)⟩
  · obtain ⟨u, e1, r1⟩ := R.val j d' e n
    exact ⟨u, e1, RepD.mono mo _ _ r1⟩
  · obtain ⟨p, xs, vs, e1, q, e2, r1⟩ := R.own j gj
    exact ⟨p, xs, vs, e1, q, e2, RepA.mono mo _ _ r1⟩
end
section
variable {K : PySem.W.Frag} {ER : ERel} {W : WX} {G : List Nat} {f fa fb fc : Inf} {σ : L2.St} {H : Hp} {Q : VK} {ma mb mc : Env → Res (PyData × Env)}
theorem m_var {i : Nat} {Γ : List Callee} (h : tM K ER W G { al := [i], ls := decide (i ∈ G), vr := some i } (evE Γ (.v i)) σ H Q) : tVar i σ H Q := by
  obtain ⟨Z, ρ, R, w⟩ := h
  simp only [evE] at w
  split at w
  · rename_i d e
    obtain ⟨v, e1, r⟩ := R.read e
    refine ⟨v, e1, w v H r (by simp) (fun z => ?_) (fun j hj => by cases hj; exact e1) R Kp.refl⟩
    obtain ⟨p, xs, vs, e2, _⟩ := R.own i (of_decide_eq_true z)
    rw [e] at e2
    exact ⟨xs, by simpa using e2⟩
  · exact w.elim
def litV : Lit → V
  | .non => .non
  | .bl b => .bl b
  | .int i => .int i
  | .str s => .str s
theorem m_lit {c : Lit} (h : tM K ER W G {} (fun ρ => .ok (c.d, ρ)) σ H Q) : tC (litV c) σ H Q := by
  obtain ⟨Z, ρ, R, w⟩ := h
  refine w _ H ?_ (by simp) (by simp) (by simp) R Kp.refl
  cases c <;> rfl
/-- an operation on two values -/
theorem m_op2 {α : Type} {op : PyData → PyData → Option α} {F : α → PyData} {r : R2} (h1 : subL fb.md G = true) (h0 : subL fa.md G = true) (h2 : dis fb.md (fa.al ++ fa.el) = true) (hm : subL (fa.md ++ fb.md) f.md = true) (hal : subL f.el f.al = true) (hv : f.vr = none)
    (hl : f.ls = true → ∀ x y a, op x y = some a → (fa.ls = true → ∃ xs, x = .list xs) → (fb.ls = true → ∃ xs, y = .list xs) → ∃ xs, F a = .list xs) (hf : f.fr = true → f.ls = true)
    (hr : ∀ (Z : Zone) (H2 : Hp) (x y : PyData) (v u : V) (a : α) (Q : VK), RepT K (Av Z G fa.al σ) (Av Z G fa.el σ) H2 x v → RepT K (Av Z G fb.al σ) (Av Z G fb.el σ) H2 y u → op x y = some a → (∀ b, Av Z G f.el σ b → ∃ o, H2 b = some o) →
      (fa.fr = true → ∃ p xs ws, x = .list xs ∧ v = .ref p ∧ H2 p = some (.lst ws) ∧ RepA K (Av Z G fa.el σ) H2 xs ws) → Hands K (Av Z G f.el σ) H2 (F a) Q → r v u H2 Q)
    (h : tM K ER W G f (fun ρ => (ma ρ).bnd fun p => (mb p.2).bnd fun q => (Res.of (op p.1 q.1)).bnd fun d => .ok (F d, q.2)) σ H Q) : tOp r (tM K ER W G fa ma) (tM K ER W G fb mb) σ H Q := by
  obtain ⟨Z, ρ, R, w⟩ := h
  refine ⟨Z, ρ, R, (wp_bnd w).mono fun p w1 v H1 rv fv lv _ R1 k1 => ?_⟩
  refine ⟨Z, p.2, R1, (wp_bnd w1).mono fun q w2 u H2 ru fu lu _ R2 k2 => ?_⟩
  obtain ⟨a, ea, w3⟩ := wp_of w2
  have h3 := dis_of h2
  have d1 : dis fb.md fa.al = true := List.all_eq_true.mpr fun i hi => by
    have := h3 i hi
    simp only [List.mem_append, not_or] at this
    simp [this.1]
  have d2 : dis fb.md fa.el = true := List.all_eq_true.mpr fun i hi => by
    have := h3 i hi
    simp only [List.mem_append, not_or] at this
    simp [this.2]
  have rv' := rv.keep (k2.av h1 d1) (k2.av h1 d2)
  have k12 : Kp (fa.md ++ fb.md) σ H H2 := k1.left.trans k2.right
  have hG : subL (fa.md ++ fb.md) G = true := List.all_eq_true.mpr fun i hi => by
    rcases List.mem_append.mp hi with z | z
    · simpa using subL_of h0 i z
    · simpa using subL_of h1 i z
  refine hr Z H2 p.1 q.1 v u a Q rv' ru ea (fun b hb => R2.there hb) (fun z => ?_) fun w' H' g rd fr => ?_
  · obtain ⟨p', xs, ws, e1, e2, _, e4, r⟩ := (fv z).1.later R h1 k2 (k2.av h1 d2)
    exact ⟨p', xs, ws, e1, e2, e4, RepA.mono (fun _ z => .inl z) _ _ r⟩
  · refine w3 w' H' ((RepT.ofD rd).mono (av_el hal) fun _ z => z) (fun z => ?_) (fun z => hl z _ _ _ ea lv lu) (by simp [hv]) (R2.grow g) ((k12.trans (Kp.grow g)).mono (subL_of hm))
    obtain ⟨xs, ex⟩ := hl (hf z) _ _ _ ea lv lu
    obtain ⟨p', xs', vs', e1, e2, e3, e4, r⟩ := fr xs ex
    refine ⟨⟨p', xs', vs', e1, e2, R2.older k12 hG e3, e4, r⟩, fun q eq => ?_⟩
    rw [e2] at eq
    cases eq
    exact R2.enterG e3 g ⟨_, e4⟩
/-- an operation on one value -/
theorem m_op1 {α : Type} {op : PyData → Option α} {F : α → PyData} {r : V → Hp → VK → Prop} (h0 : subL fa.md G = true) (hm : subL fa.md f.md = true) (hal : subL f.el f.al = true) (hv : f.vr = none)
    (hl : f.ls = true → ∀ x a, op x = some a → (fa.ls = true → ∃ xs, x = .list xs) → ∃ xs, F a = .list xs) (hf : f.fr = true → f.ls = true)
    (hr : ∀ (Z : Zone) (H2 : Hp) (x : PyData) (v : V) (a : α) (Q : VK), RepT K (Av Z G fa.al σ) (Av Z G fa.el σ) H2 x v → op x = some a → (∀ b, Av Z G f.el σ b → ∃ o, H2 b = some o) → Hands K (Av Z G f.el σ) H2 (F a) Q → r v H2 Q)
    (h : tM K ER W G f (fun ρ => (ma ρ).bnd fun p => (Res.of (op p.1)).bnd fun d => .ok (F d, p.2)) σ H Q) : tUn r (tM K ER W G fa ma) σ H Q := by
  obtain ⟨Z, ρ, R, w⟩ := h
  refine ⟨Z, ρ, R, (wp_bnd w).mono fun p w1 v H1 rv fv lv _ R1 k1 => ?_⟩
  obtain ⟨a, ea, w3⟩ := wp_of w1
  refine hr Z H1 p.1 v a Q rv ea (fun b hb => R1.there hb) fun w' H' g rd fr => ?_
  refine w3 w' H' ((RepT.ofD rd).mono (av_el hal) fun _ z => z) (fun z => ?_) (fun z => hl z _ _ ea lv) (by simp [hv]) (R1.grow g) ((k1.trans (Kp.grow g)).mono (subL_of hm))
  obtain ⟨xs, ex⟩ := hl (hf z) _ _ ea lv
  obtain ⟨p', xs', vs', e1, e2, e3, e4, r⟩ := fr xs ex
  refine ⟨⟨p', xs', vs', e1, e2, R1.older k1 h0 e3, e4, r⟩, fun q eq => ?_⟩
  rw [e2] at eq
  cases eq
  exact R1.enterG e3 g ⟨_, e4⟩
end
end Hx

set_option Elab.async false
set_option linter.all false
set_option maxRecDepth 100000
set_option maxHeartbeats 4000000
/-! H8: what is known of an expression of the language (infE ..), and the check that a piece of a program's text is it (chkE ..). -/
namespace Hx
open PySem PySem.Spec PyProof.Rows L2

structure Sig where
  name : Str
  np : Nat
  br : List Nat
  fr : Bool
  /-- its keyword-only parameter, the last one, and what it is if it lacks -/
  kw : Option (Str × Lit)
structure SC where
  N : List Str
  sc : Scope
  st : Scope
  sg : List Sig
  con : List (Str × Lit)
def binL : BOp → Bool → Bool → Bool
  | .add, a, b => a || b
  | .lmul, a, _ => a
  | _, _, _ => false
def biL : BI → Bool
  | .list => true
  | .sorted => true
  | _ => false
mutual
def infE (sg : List Sig) (G : List Nat) : IE → Inf
  | .v i => { al := [i], ls := decide (i ∈ G), vr := some i }
  | .lit _ => {}
  | .con _ _ => {}
  | .tup es => { al := (infEs sg G es).al, el := (infEs sg G es).al, md := (infEs sg G es).md }
  | .lst es => { al := (infEs sg G es).al, el := (infEs sg G es).al, md := (infEs sg G es).md, fr := true, ls := true }
  | .edct => {}
  | .neg a => { md := (infE sg G a).md }
  | .bin o a b => { al := (infE sg G a).el ++ (infE sg G b).el, el := (infE sg G a).el ++ (infE sg G b).el, md := (infE sg G a).md ++ (infE sg G b).md, fr := binL o (infE sg G a).ls (infE sg G b).ls, ls := binL o (infE sg G a).ls (infE sg G b).ls }
  | .cmp _ a b => { md := (infE sg G a).md ++ (infE sg G b).md }
  | .chain _ _ a b c => { md := (infE sg G a).md ++ (infE sg G b).md ++ (infE sg G c).md }
  | .isN _ a => { md := (infE sg G a).md }
  | .not a => { md := (infE sg G a).md }
  | .and a es => { md := (infE sg G a).md ++ (infEs sg G es).md }
  | .or a es => { md := (infE sg G a).md ++ (infEs sg G es).md }
  | .ite c a b => { al := (infE sg G a).al ++ (infE sg G b).al, el := (infE sg G a).el ++ (infE sg G b).el, md := mdT sg G c ++ (infE sg G a).md ++ (infE sg G b).md, fr := (infE sg G a).fr && (infE sg G b).fr, ls := (infE sg G a).ls && (infE sg G b).ls }
  | .call f es => match sg[f]? with
    | some s => { al := infA sg G s.br 0 es, el := infA sg G s.br 0 es, md := (infEs sg G es).md ++ refArgs s.br es, fr := s.fr, ls := s.fr }
    | none => {}
  | .callk f es k => match sg[f]? with
    | some s => { al := (infEs sg G es).al ++ ((infE sg G k).al ++ (infE sg G k).el), el := (infEs sg G es).al ++ ((infE sg G k).al ++ (infE sg G k).el), md := (infEs sg G es).md ++ (infE sg G k).md, fr := s.fr, ls := s.fr }
    | none => {}
  | .bi f es => { al := (infEs sg G es).el, el := (infEs sg G es).el, md := (infEs sg G es).md, fr := biL f, ls := biL f }
  | .mk t it => { al := (infI sg G it).el, el := (infI sg G it).el, md := (infI sg G it).md, fr := !t, ls := !t }
  | .isa _ a => { md := (infE sg G a).md }
  | .idx a i => { al := (infE sg G a).el, el := (infE sg G a).el, md := (infE sg G a).md ++ (infE sg G i).md }
  | .sl a lo hi => { al := (infE sg G a).el, el := (infE sg G a).el, md := (infE sg G a).md ++ mdO sg G lo ++ mdO sg G hi, fr := (infE sg G a).ls, ls := (infE sg G a).ls }
  | .rev a => { al := (infE sg G a).el, el := (infE sg G a).el, md := (infE sg G a).md, fr := (infE sg G a).ls, ls := (infE sg G a).ls }
  | .comp _ it cs e => { al := (infE sg G e).al ++ (infE sg G e).el, el := (infE sg G e).al ++ (infE sg G e).el, md := (infI sg G it).md ++ mdCs sg G cs ++ (infE sg G e).md, fr := true, ls := true }
  | .comp2 _ it cs _ it2 cs2 e => { al := (infE sg G e).al ++ (infE sg G e).el, el := (infE sg G e).al ++ (infE sg G e).el, md := (infI sg G it).md ++ mdCs sg G cs ++ (infI sg G it2).md ++ mdCs sg G cs2 ++ (infE sg G e).md, fr := true, ls := true }
  | .dcomp2 _ it _ it2 k v => { al := (infE sg G v).al ++ (infE sg G v).el, el := (infE sg G v).al ++ (infE sg G v).el, md := (infI sg G it).md ++ (infI sg G it2).md ++ (infE sg G k).md ++ (infE sg G v).md }
  | .ixof a b => { md := (infE sg G a).md ++ (infE sg G b).md }
  | .dzip a b => { al := (infE sg G b).el, el := (infE sg G b).el, md := (infE sg G a).md ++ (infE sg G b).md }
  | .dget a k => { al := (infE sg G a).el, el := (infE sg G a).el, md := (infE sg G a).md ++ (infE sg G k).md }
  | .pop x es => { md := x :: (infEs sg G es).md }
def infEs (sg : List Sig) (G : List Nat) : IEs → Inf
  | .nil => {}
  | .cons a es => { al := (infE sg G a).al ++ (infE sg G a).el ++ (infEs sg G es).al, el := (infE sg G a).el ++ (infEs sg G es).el, md := (infE sg G a).md ++ (infEs sg G es).md }
def infA (sg : List Sig) (G : List Nat) : List Nat → Nat → IEs → List Nat
  | _, _, .nil => []
  | br, n, .cons a es => (if n ∈ br then [] else (infE sg G a).al ++ (infE sg G a).el) ++ infA sg G br (n + 1) es
def mdT (sg : List Sig) (G : List Nat) : IC → List Nat
  | .val e => (infE sg G e).md
  | .not c => mdT sg G c
  | .and c cs => mdT sg G c ++ mdCs sg G cs
  | .or c cs => mdT sg G c ++ mdCs sg G cs
def mdCs (sg : List Sig) (G : List Nat) : ICs → List Nat
  | .nil => []
  | .cons c cs => mdT sg G c ++ mdCs sg G cs
def mdO (sg : List Sig) (G : List Nat) : IO → List Nat
  | .non => []
  | .som e => (infE sg G e).md
def infI (sg : List Sig) (G : List Nat) : II → Inf
  | .seq a => { al := (infE sg G a).al ++ (infE sg G a).el, el := (infE sg G a).el, md := (infE sg G a).md }
  | .rng es => { md := (infEs sg G es).md }
  | .zip es => { al := (infEs sg G es).al ++ (infEs sg G es).el, el := (infEs sg G es).el, md := (infEs sg G es).md, fr := true }
  | .enm a => { al := (infE sg G a).al ++ (infE sg G a).el, el := (infE sg G a).el, md := (infE sg G a).md, fr := true }
end

/-! ### checks -/
def visB (sc : Scope) (x : Str) : Bool := match sc.names.lookup x with
  | some .local => true
  | some .cell => true
  | some .free => true
  | _ => false
def stoB (S : SC) (x : Str) : Bool := match S.sc.names.lookup x with
  | some .local => true
  | some .cell => (match S.st.names.lookup x with
    | some .cell => true
    | _ => false)
  | _ => false
def gloB (sc : Scope) (x : Str) : Bool := match sc.names.lookup x with
  | some .globalImplicit => true
  | _ => false
def okN (x : Str) : Bool := !(x == ("__debug__" : Str)) && !(x == ("__classdict__" : Str)) && !(x == ("__name__" : Str))
def nameB (S : SC) (i : Nat) (x : Str) : Bool := (match S.N[i]? with
  | some y => y == x
  | none => false) && okN x
def binB : BOp → Operator → Bool
  | .add, .Add => true
  | .sub, .Sub => true
  | .mul, .Mult => true
  | .lmul, .Mult => true
  | .fdiv, .FloorDiv => true
  | .mod, .Mod => true
  | .pow, .Pow => true
  | _, _ => false
def cmpB : COp → CmpOp → Bool
  | .eq, .Eq => true
  | .ne, .NotEq => true
  | .lt, .Lt => true
  | .le, .LtE => true
  | .gt, .Gt => true
  | .ge, .GtE => true
  | .isin, .In => true
  | .notin, .NotIn => true
  | .is, .Is => true
  | .nis, .IsNot => true
  | _, _ => false
def biN : BI → Str
  | .len => "len"
  | .tuple => "tuple"
  | .list => "list"
  | .all => "all"
  | .any => "any"
  | .sum => "sum"
  | .max1 => "max"
  | .min1 => "min"
  | .max2 => "max"
  | .min2 => "min"
  | .sorted => "sorted"
  | .int => "int"
  | .abs => "abs"
  | .repr => "repr"
  | .str => "str"
  | .dict => "dict"
def blts : List Str := ["len", "tuple", "list", "all", "any", "sum", "max", "min", "sorted", "int", "abs", "repr", "str", "dict", "bool", "isinstance", "range", "zip", "enumerate"]
/-- neither a starred item nor a slice -/
def plainX : Expr → Bool
  | .Starred _ _ => false
  | .Slice _ _ _ _ => false
  | .Set _ _ _ => false
  | _ => true
/-- tested by its value -/
def valX : Expr → Bool
  | .UnaryOp .Not _ _ => false
  | .BoolOp _ _ _ => false
  | .IfExp _ _ _ _ => false
  | .Compare _ _ _ _ => false
  | _ => true
def tgtB (S : SC) : Tgt → Expr → Bool
  | .v i, .Name x _ => nameB S i x && stoB S x
  | .tup is, .Tuple es _ _ => tupB is es
  | _, _ => false
where tupB : List Nat → List Expr → Bool
  | [], [] => true
  | i :: is, .Name x _ :: es => nameB S i x && stoB S x && tupB is es
  | _, _ => false
def ownOf (S : SC) (is : List Nat) : List (Str × Nat) := is.map fun i => (S.N.getD i "", i)
/-- inside a comprehension's block -/
def SC.blk (S : SC) (scope : Scope) : SC := { S with sc := relS scope S.sc, st := scope }
def isTup1 : Expr → Bool
  | .Tuple _ _ _ => true
  | _ => false
/-! one form each; the parts' checks are handed in -/
abbrev CK := Expr → Bool
abbrev CKs := List Expr → Bool
def kVar (S : SC) (i : Nat) : CK
  | .Name y _ => nameB S i y && visB S.sc y
  | _ => false
def litB : Lit → Const → Bool
  | .non, .none => true
  | .bl a, .bool b => a == b
  | .int a, .int b => a == b
  | .str a, .str b => a == b
  | _, _ => false
def litE : Lit → Lit → Bool
  | .non, .non => true
  | .bl a, .bl b => a == b
  | .int a, .int b => a == b
  | .str a, .str b => a == b
  | _, _ => false
def kLit (c : Lit) : CK
  | .Constant k _ _ => litB c k
  | _ => false
def kCon (S : SC) (n : Str) (c : Lit) : CK
  | .Name y _ => (n == y) && okN y && gloB S.sc y && S.con.any fun p => p.1 == y && litE p.2 c
  | _ => false
def kTup (k : CKs) : CK
  | .Tuple xs _ _ => k xs
  | _ => false
def kLst (k : CKs) : CK
  | .List xs _ => k xs
  | _ => false
def kDct : CK
  | .Dict [] [] _ => true
  | _ => false
def kNeg (k : CK) : CK
  | .UnaryOp .USub y _ => k y
  | _ => false
/-- b runs behind a -/
def aft (G : List Nat) (a b : Inf) : Bool := subL a.md G && subL b.md G && dis b.md (a.al ++ a.el)
def kBin (o : BOp) (ka kb : CK) : CK
  | .BinOp y p z _ => binB o p && ka y && kb z
  | _ => false
def lmulB : BOp → Inf → Bool
  | .lmul, f => f.fr && f.ls
  | _, _ => true
def kCmp (o : COp) (ka kb : CK) : CK
  | .Compare y [p] [z] _ => cmpB o p && ka y && kb z && plainX z
  | _ => false
def kChain (o p : COp) (ka kb kc : CK) : CK
  | .Compare y [q, r] [z, w] _ => cmpB o q && cmpB p r && ka y && kb z && kc w && plainX z && plainX w
  | _ => false
def isB : Bool → CmpOp → Bool
  | true, .Is => true
  | false, .IsNot => true
  | _, _ => false
def kIsN (pos : Bool) (ka : CK) : CK
  | .Compare y [q] [.Constant .none _ _] _ => isB pos q && ka y
  | _ => false
def kNot (ka : CK) : CK
  | .UnaryOp .Not y _ => ka y
  | _ => false
def kAnd (ka : CK) (ks : CKs) : CK
  | .BoolOp .And (y :: ys) _ => ka y && ks ys
  | _ => false
def kOr (ka : CK) (ks : CKs) : CK
  | .BoolOp .Or (y :: ys) _ => ka y && ks ys
  | _ => false
def kIte (kc ka kb : CK) : CK
  | .IfExp t y z _ => kc t && ka y && kb z
  | _ => false
def kCall (S : SC) (n : Str) (ks : CKs) : CK
  | .Call (.Name y _) (z :: zs) [] _ => (n == y) && okN y && gloB S.sc y && ks (z :: zs)
  | _ => false
/-- a def's call; with its keyword-only parameter -/
def kCallD (S : SC) (s : Sig) (ks : CKs) : CK
  | .Call (.Name y _) zs [] _ => s.kw.isNone && (s.name == y) && okN y && gloB S.sc y && ks zs
  | _ => false
def kKw (S : SC) (n kn : Str) (ks : CKs) (kk : CK) : CK
  | .Call (.Name y _) (z :: zs) [⟨some w, e, _⟩] _ => (n == y) && okN y && gloB S.sc y && (kn == w) && kk e && ks (z :: zs)
  | _ => false
def isLitE (c : Lit) : IE → Bool
  | .lit c' => litE c c'
  | _ => false
def tyNm : Ty → Str
  | .int => "int"
  | .bool => "bool"
  | .str => "str"
  | .tuple => "tuple"
  | .list => "list"
  | .dict => "dict"
def kIsa (S : SC) (t : Ty) (ka : CK) : CK
  | .Call (.Name y _) [z, .Name w _] [] _ => (y == ("isinstance" : Str)) && gloB S.sc y && gloB S.sc w && (w == tyNm t) && ka z && plainX z
  | _ => false
def kIdx (ka kb : CK) : CK
  | .Subscript y z _ => ka y && kb z && plainX z
  | _ => false
def kSl (ka : CK) (kl kh : Option Expr → Bool) : CK
  | .Subscript y (.Slice p q none _) _ => ka y && kl p && kh q
  | _ => false
def kRev (ka : CK) : CK
  | .Subscript y (.Slice none none (some (.UnaryOp .USub (.Constant (.int k) _ _) _)) _) _ => decide (k = 1) && ka y
  | _ => false
def kComp (S : SC) (t : Tgt) (ki : Expr → CK) (kc : SC → CKs) (ke : SC → CK) : CK
  | .ListComp elt [⟨tg, iter, ifs, k⟩] scope _ => decide (k = 0) && ki tg iter && tgtB (S.blk scope) t tg && kc (S.blk scope) ifs && ke (S.blk scope) elt && blkC S.N S.sc scope (ownOf S t.own)
  | _ => false
def kComp2 (S : SC) (t t2 : Tgt) (ki : Expr → CK) (kc : SC → CKs) (ki2 : SC → Expr → CK) (kc2 : SC → CKs) (ke : SC → CK) : CK
  | .ListComp elt [⟨tg, iter, ifs, k⟩, ⟨tg2, iter2, ifs2, k2⟩] scope _ => decide (k = 0) && decide (k2 = 0) && ki tg iter && tgtB (S.blk scope) t tg && kc (S.blk scope) ifs && ki2 (S.blk scope) tg2 iter2 &&
      tgtB (S.blk scope) t2 tg2 && kc2 (S.blk scope) ifs2 && ke (S.blk scope) elt && blkC S.N S.sc scope (ownOf S (t.own ++ t2.own))
  | _ => false
def kDcomp2 (S : SC) (t t2 : Tgt) (ki : Expr → CK) (ki2 : SC → Expr → CK) (kk kv : SC → CK) : CK
  | .DictComp kx vx [⟨tg, iter, [], a1⟩, ⟨tg2, iter2, [], a2⟩] scope _ => decide (a1 = 0) && decide (a2 = 0) && ki tg iter && tgtB (S.blk scope) t tg && ki2 (S.blk scope) tg2 iter2 && tgtB (S.blk scope) t2 tg2 &&
      kk (S.blk scope) kx && kv (S.blk scope) vx && blkC S.N S.sc scope (ownOf S (t.own ++ t2.own))
  | _ => false
/-- an object whose method is called: no call itself -/
def baseX : Expr → Bool
  | .Call _ _ _ _ => false
  | _ => true
def kIxof (ka kb : CK) : CK
  | .Call (.Attribute y m ap) [z] [] cp => (m == ("index" : Str)) && (ap.endLine == cp.line) && baseX y && plainX z && ka y && kb z
  | _ => false
def kDzip (S : SC) (ka kb : CK) : CK
  | .Call (.Name y _) [.Call (.Name n _) [u, v] [] _] [] _ => (y == ("dict" : Str)) && gloB S.sc y && (n == ("zip" : Str)) && gloB S.sc n && plainX u && plainX v && ka u && kb v
  | _ => false
def kPop (S : SC) (i : Nat) (ks : CKs) : CK
  | .Call (.Attribute (.Name y _) m ap) zs [] cp => nameB S i y && visB S.sc y && (m == ("pop" : Str)) && (ap.endLine == cp.line) && ks zs
  | _ => false
def kCons (ka : CK) (ks : CKs) : CKs
  | y :: ys => ka y && plainX y && ks ys
  | [] => false
def kTest (ka : CK) : CK := fun x => ka x && valX x
def kTests (ka : CK) (ks : CKs) : CKs
  | y :: ys => ka y && ks ys
  | [] => false
def kSome (ka : CK) : Option Expr → Bool
  | some y => ka y
  | none => false
def kBuilt (S : SC) (n : Str) (ks : CKs) : CK
  | .Call (.Name y _) zs [] _ => (y == n) && okN y && gloB S.sc y && ks zs
  | _ => false
def iesLen : IEs → Nat
  | .nil => 0
  | .cons _ es => iesLen es + 1
/-- a display has few items -/
def few (es : IEs) : Bool := decide (iesLen es ≤ 1000000)
def isVar : IE → Bool
  | .v _ => true
  | _ => false
/-- at the places that the callee changes stand names of lists that we own, each another one; nothing else that is handed in is one of them -/
def callB (S : SC) (G : List Nat) (s : Sig) (es : IEs) (f : Inf) : Bool := subL f.md G && (s.br.all fun i => (argV es i).isSome && decide (i < s.np)) && decide s.br.Nodup &&
  decide (refArgs s.br es).Nodup && dis (refArgs s.br es) (infA S.sg G s.br 0 es) && subL (refArgs s.br es) G && decide (iesLen es = s.np)
def isCmpE : IE → Bool
  | .cmp _ _ _ => true
  | .chain _ _ _ _ _ => true
  | _ => false
def ices : ICs → Bool
  | .nil => false
  | _ => true
def iees : IEs → Bool
  | .nil => false
  | _ => true
def rngB : II → Bool
  | .rng es => decide (iesLen es = 1) || decide (iesLen es = 2)
  | _ => false
/-- pairs that an iterator makes go to a tuple of names -/
def tupT : Tgt → Bool
  | .tup _ => true
  | .v _ => false
def pairB (f : Inf) (t : Tgt) : Bool := !f.fr || tupT t
theorem pair_of {f : Inf} {t : Tgt} (h : pairB f t = true) (k : f.fr = true) : tupT t = true := by
  unfold pairB at h
  rw [k] at h
  exact h
def compB (t : List Nat) (G : List Nat) (it : Inf) (md : List Nat) (r : Inf) : Bool := dis t G && dis it.el G && subL it.md G && subL md G && dis md (it.al ++ r.al) && decide t.Nodup
/-- nothing is changed in a comprehension of two clauses -/
def comp2B (t : List Nat) (G : List Nat) (it it2 : Inf) (md : List Nat) : Bool := dis t G && dis it.el G && dis it2.el G && subL it.md G && it2.md.isEmpty && md.isEmpty
mutual
def chkE (S : SC) (G : List Nat) : IE → CK
  | .v i => kVar S i
  | .lit c => kLit c
  | .con n c => kCon S n c
  | .tup es => fun x => kTup (chkEs S G es) x && few es
  | .lst es => fun x => kLst (chkEs S G es) x && few es
  | .edct => kDct
  | .neg a => fun x => kNeg (chkE S G a) x && subL (infE S.sg G a).md G
  | .bin o a b => fun x => kBin o (chkE S G a) (chkE S G b) x && aft G (infE S.sg G a) (infE S.sg G b) && lmulB o (infE S.sg G a)
  | .cmp o a b => fun x => kCmp o (chkE S G a) (chkE S G b) x && aft G (infE S.sg G a) (infE S.sg G b)
  | .chain o p a b c => fun x => kChain o p (chkE S G a) (chkE S G b) (chkE S G c) x && aft G (infE S.sg G a) (infE S.sg G b) && aft G (infE S.sg G b) (infE S.sg G c)
  | .isN pos a => fun x => kIsN pos (chkE S G a) x && subL (infE S.sg G a).md G
  | .not a => fun x => kNot (chkE S G a) x && subL (infE S.sg G a).md G
  | .and a es => fun x => kAnd (chkE S G a) (chkEs S G es) x && subL (infE S.sg G a).md G && subL (infEs S.sg G es).md G && iees es
  | .or a es => fun x => kOr (chkE S G a) (chkEs S G es) x && subL (infE S.sg G a).md G && subL (infEs S.sg G es).md G && iees es
  | .ite c a b => fun x => kIte (chkT S G c) (chkE S G a) (chkE S G b) x && subL (mdT S.sg G c) G
  | .call f es => fun x => (match S.sg[f]? with
    | some s => kCallD S s (chkRs S G s.br 0 es) x && callB S G s es (infEs S.sg G es)
    | none => false)
  | .callk f es k => fun x => (match S.sg[f]? with
    | some s => (match s.kw with
      | some kw => (kKw S s.name kw.1 (chkEs S G es) (chkE S G k) x || (isLitE kw.2 k && kCall S s.name (chkEs S G es) x)) && s.br.isEmpty && decide (iesLen es + 1 = s.np) && aft G (infEs S.sg G es) (infE S.sg G k)
      | none => false)
    | none => false)
  | .bi f es => fun x => kCall S (biN f) (chkEs S G es) x && subL (infEs S.sg G es).md G
  | .mk t it => fun x => kBuilt S (if t = true then "tuple" else "list") (kCons (chkI S G it x) List.isEmpty) x && rngB it
  | .isa t a => fun x => kIsa S t (chkE S G a) x && subL (infE S.sg G a).md G
  | .idx a i => fun x => kIdx (chkE S G a) (chkE S G i) x && aft G (infE S.sg G a) (infE S.sg G i)
  | .sl a lo hi => fun x => kSl (chkE S G a) (chkO S G lo) (chkO S G hi) x && subL (infE S.sg G a).md G && (mdO S.sg G lo).isEmpty && (mdO S.sg G hi).isEmpty
  | .rev a => fun x => kRev (chkE S G a) x && subL (infE S.sg G a).md G
  | .ixof a b => fun x => kIxof (chkE S G a) (chkE S G b) x && aft G (infE S.sg G a) (infE S.sg G b)
  | .dzip a b => fun x => kDzip S (chkE S G a) (chkE S G b) x && aft G (infE S.sg G a) (infE S.sg G b)
  | .dget a k => fun x => kIdx (chkE S G a) (chkE S G k) x && aft G (infE S.sg G a) (infE S.sg G k)
  | .comp t it cs e => fun x => kComp S t (chkI S G it) (fun S' => chkCs S' G cs) (fun S' => chkE S' G e) x &&
      compB t.own G (infI S.sg G it) (mdCs S.sg G cs ++ (infE S.sg G e).md) { al := (infE S.sg G e).al ++ (infE S.sg G e).el } && pairB (infI S.sg G it) t
  | .comp2 t it cs t2 it2 cs2 e => fun x => kComp2 S t t2 (chkI S G it) (fun S' => chkCs S' G cs) (fun S' => chkI S' G it2) (fun S' => chkCs S' G cs2) (fun S' => chkE S' G e) x &&
      comp2B (t.own ++ t2.own) G (infI S.sg G it) (infI S.sg G it2) (mdCs S.sg G cs ++ mdCs S.sg G cs2 ++ (infE S.sg G e).md) && (pairB (infI S.sg G it) t && pairB (infI S.sg G it2) t2)
  | .dcomp2 t it t2 it2 k v => fun x => kDcomp2 S t t2 (chkI S G it) (fun S' => chkI S' G it2) (fun S' => chkE S' G k) (fun S' => chkE S' G v) x &&
      comp2B (t.own ++ t2.own) G (infI S.sg G it) (infI S.sg G it2) ((infE S.sg G k).md ++ (infE S.sg G v).md) && (pairB (infI S.sg G it) t && pairB (infI S.sg G it2) t2)
  | .pop i es => fun x => kPop S i (chkEs S G es) x && decide (iesLen es ≤ 1) && decide (i ∈ G) && subL (infEs S.sg G es).md G && dis (infEs S.sg G es).md [i]
def chkEs (S : SC) (G : List Nat) : IEs → CKs
  | .nil => List.isEmpty
  | .cons a es => fun x => kCons (chkE S G a) (chkEs S G es) x && aft G (infE S.sg G a) (infEs S.sg G es)
/-- arguments of a def; at the places br only the address counts -/
def chkRs (S : SC) (G : List Nat) : List Nat → Nat → IEs → CKs
  | _, _, .nil => List.isEmpty
  | br, n, .cons a es => fun x => kCons (chkE S G a) (chkRs S G br (n + 1) es) x && (if n ∈ br then subL (infE S.sg G a).md G && subL (infEs S.sg G es).md G else aft G (infE S.sg G a) (infEs S.sg G es))
def chkT (S : SC) (G : List Nat) : IC → CK
  | .val e => fun x => (kTest (chkE S G e) x || (isCmpE e && chkE S G e x)) && subL (infE S.sg G e).md G
  | .not c => kNot (chkT S G c)
  | .and c cs => fun x => kAnd (chkT S G c) (chkCs S G cs) x && ices cs
  | .or c cs => fun x => kOr (chkT S G c) (chkCs S G cs) x && ices cs
def chkCs (S : SC) (G : List Nat) : ICs → CKs
  | .nil => List.isEmpty
  | .cons c cs => kTests (chkT S G c) (chkCs S G cs)
def chkO (S : SC) (G : List Nat) : IO → Option Expr → Bool
  | .non => Option.isNone
  | .som e => kSome (chkE S G e)
def chkI (S : SC) (G : List Nat) : II → Expr → CK
  | .seq a => fun _ x => chkE S G a x && plainX x && subL (infE S.sg G a).md G
  | .rng es => fun _ x => kBuilt S "range" (chkEs S G es) x && subL (infEs S.sg G es).md G && (decide (iesLen es = 1) || decide (iesLen es = 2) || decide (iesLen es = 3))
  | .zip es => fun tg x => isTup1 tg && kBuilt S "zip" (chkEs S G es) x && subL (infEs S.sg G es).md G && decide (iesLen es = 2)
  | .enm a => fun tg x => isTup1 tg && kBuilt S "enumerate" (kCons (chkE S G a) List.isEmpty) x && subL (infE S.sg G a).md G
end
end Hx

set_option Elab.async false
set_option linter.all false
set_option maxRecDepth 100000
set_option maxHeartbeats 4000000
/-! H9: a def's promise; the context that the checks need; the expressions' rules (but for calls and comprehensions). -/
namespace Hx
open PySem PySem.Spec PyProof.Rows L2

/-! ### a def's promise -/
/-- the addresses at the places that the callee may change -/
def BrAt (br : List Nat) (vs : List V) (a : Addr) : Prop := ∃ i, i ∈ br ∧ vs[i]? = some (V.ref a)
structure CallPre (K : PySem.W.Frag) (s : Sig) (M : Addr → Prop) (H : Hp) (ds : List PyData) (vs : List V) : Prop where
  lv : vs.length = s.np
  ld : ds.length = s.np
  dom : ∀ a, M a → ∃ o, H a = some o
  arg : ∀ (i : Nat) (d : PyData) (v : V), ds[i]? = some d → vs[i]? = some v → i ∉ s.br → RepD K M H d v
  ref : ∀ i : Nat, i ∈ s.br → ∃ p xs ws, ds[i]? = some (PyData.list xs) ∧ vs[i]? = some (V.ref p) ∧ M p ∧ H p = some (.lst ws) ∧ RepA K M H xs ws
  dis : ∀ (i j : Nat) (p : Addr), i ∈ s.br → j ∈ s.br → vs[i]? = some (V.ref p) → vs[j]? = some (V.ref p) → i = j
structure CallPost (K : PySem.W.Frag) (s : Sig) (M : Addr → Prop) (H : Hp) (vs : List V) (d : PyData) (outs : List PyData) (v : V) (H' : Hp) : Prop where
  val : RepD K M H' d v
  fr : s.fr = true → Frsh K M H H' d v
  keep : ∀ a o, H a = some o → ¬ BrAt s.br vs a → H' a = some o
  len : outs.length = s.br.length
  out : ∀ (k i : Nat) (p : Addr), s.br[k]? = some i → vs[i]? = some (V.ref p) → ∃ ns : List Int, outs[k]? = some (PyData.list (ns.map .int)) ∧ H' p = some (.lst (ns.map V.int))
  dom : ∀ a, M a → ∃ o, H' a = some o
def spG (K : PySem.W.Frag) (ER : ERel) (s : Sig) (m : Mng) : Sp := fun vs H Q E => ∃ (M : Addr → Prop) (ds : List PyData), CallPre K s M H ds vs ∧
  Wp (fun c xs _ => ∀ cls dx H', ER c xs cls dx H' → (∀ a o, H a = some o → ¬ BrAt s.br vs a → H' a = some o) → E cls dx H') (fun p => ∀ v H', CallPost K s M H vs p.1 p.2 v H' → Q v H') (m ds)
/-- a def of the module keeps its promise, where nothing guards the stack -/
structure FnG (P : Program) (w : World) (K : PySem.W.Frag) (mg : Str → Option Value) (base : Heap) (k : Nat) (f : Addr) (fd : FuncData) (ps : List Str) (sp : Sp) : Prop where
  len : ∀ vs H Q E, sp vs H Q E → vs.length = ps.length
  run : ∀ (A : Around) (outer : List PySem.Env) (s : Shared) (H : Hp) (args : Args) (us : List Value) (vs : List V) (Q : VK) (E : XK), A.guards = some [] → Room k A → Env0 P w K mg base A outer s H → BindsTo s fd args (ps.zip us) → Vals vs us → sp vs H Q E →
    codeAny (model P w) A (.call (.ref f) args) (CR (CX P w) outer P w H s Q E) s

/-! ### the context -/
/-- how a def's parameters are bound -/
structure KwOk (K : PySem.W.Frag) (fd : FuncData) (ps : List Str) (kn : Str) (c : Lit) : Prop where
  df : ∃ dv, RelV (litV c) dv ∧ Binds K fd ps [dv]
  kw : ∀ (s : Shared) (us : List Value) (u : Value), K.In s.heap → us.length + 1 = ps.length → BindsTo s fd ⟨us, [(kn, u)]⟩ (ps.zip (us ++ [u]))
def BindK (K : PySem.W.Frag) (fd : FuncData) (ps : List Str) : Option (Str × Lit) → Prop
  | none => Binds K fd ps []
  | some kw => KwOk K fd ps kw.1 kw.2
structure CalOk (ER : ERel) (X : Cx) (s : Sig) (g : Callee) : Prop where
  br : s.br = g.br
  ex : ∃ (k : Nat) (fa : Addr) (fd : FuncData) (ps : List Str), X.mg s.name = some (.ref fa) ∧ PySem.W.keepIn X.K (.ref fa) = true ∧ FnG X.prog X.w X.K X.mg X.base k fa fd ps (spG X.K ER s g.m) ∧ Room k X.A ∧ BindK X.K fd ps s.kw
structure CxOk (Γ : List Callee) (ER : ERel) (S : SC) (W : WX) (X : Cx) : Prop where
  N : X.N = S.N
  sc : X.env.scope = S.sc
  nd : S.N.Nodup
  calm : X.calm = true
  un : X.A.units + 120 < cLine
  gd : X.A.guards = some []
  fn : ∀ x, S.st.names.lookup x = some .cell → X.fn x = true
  blt : ∀ x ∈ blts, X.mg x = none
  con : ∀ p ∈ S.con, ∃ u, X.mg p.1 = some u ∧ RelV (litV p.2) u
  cal : ∀ (f : Nat) (s : Sig), S.sg[f]? = some s → ∃ g, Γ[f]? = some g ∧ CalOk ER X s g
  tk : Takes X W
section
variable {Γ : List Callee} {ER : ERel} {S : SC} {W : WX} {X : Cx} {G : List Nat}
theorem okN_of {x : Str} (h : okN x = true) : (x == ("__debug__" : Str)) = false ∧ (x == ("__classdict__" : Str)) = false ∧ x ≠ "__name__" := by
  unfold okN at h
  simp only [Bool.and_eq_true, Bool.not_eq_true'] at h
  refine ⟨h.1.1, h.1.2, fun e => ?_⟩
  have := h.2
  rw [e] at this
  simp at this
theorem nameB_of {i : Nat} {x : Str} (h : nameB S i x = true) : S.N[i]? = some x ∧ okN x = true := by
  unfold nameB at h
  rw [Bool.and_eq_true] at h
  refine ⟨?_, h.2⟩
  cases e : S.N[i]? with
  | none => rw [e] at h; simp at h
  | some y =>
    rw [e] at h
    have : y = x := by simpa using h.1
    rw [this]
theorem CxOk.at (C : CxOk Γ ER S W X) {i : Nat} {x : Str} (h : S.N[i]? = some x) : X.N[i]? = some x := by rw [C.N]; exact h
theorem CxOk.vis (C : CxOk Γ ER S W X) {x : Str} (h : visB S.sc x = true) : Vis X.env.scope x := by
  rw [C.sc]
  unfold visB at h
  split at h
  · rename_i e; exact .inl e
  · rename_i e; exact .inr (.inl e)
  · rename_i e; exact .inr (.inr e)
  · cases h
theorem CxOk.glo (C : CxOk Γ ER S W X) {x : Str} (h : gloB S.sc x = true) : Gl X x := by
  unfold gloB at h
  split at h
  · rename_i e
    show X.env.scope.names.lookup x = _
    rw [C.sc]
    exact e
  · cases h
theorem CxOk.sto (C : CxOk Γ ER S W X) {x : Str} (h : stoB S x = true) : Loc X.env.scope x ∧ (X.fn x = true ∨ X.env.scope.names.lookup x = some .local) := by
  rw [C.sc]
  unfold stoB at h
  split at h
  · rename_i e; exact ⟨.inl e, .inr e⟩
  · rename_i e
    split at h
    · rename_i e2; exact ⟨.inr e, .inl (C.fn x e2)⟩
    · cases h
  · cases h
theorem s_var (C : CxOk Γ ER S W X) {i : Nat} {x : Expr} (h : kVar S i x = true) : PE X x (tM X.K ER W G (infE S.sg G (.v i)) (evE Γ (.v i))) := by
  unfold kVar at h
  split at h
  · rename_i y pos
    rw [Bool.and_eq_true] at h
    obtain ⟨e, k⟩ := nameB_of h.1
    exact (pe_var (C.at e) (C.vis h.2) (okN_of k).1 (okN_of k).2.1).imp fun σ H Q q => m_var q
  · cases h
theorem s_lit (C : CxOk Γ ER S W X) {c : Lit} {x : Expr} (h : kLit c x = true) : PE X x (tM X.K ER W G (infE S.sg G (.lit c)) (evE Γ (.lit c))) := by
  show PE X x (tM X.K ER W G {} fun ρ => .ok (c.d, ρ))
  unfold kLit at h
  split at h
  · unfold litB at h
    split at h
    · exact pe_non.imp fun σ H Q q => m_lit q
    · obtain rfl := beq_iff_eq.mp h
      exact pe_bl.imp fun σ H Q q => m_lit q
    · obtain rfl := beq_iff_eq.mp h
      exact pe_int.imp fun σ H Q q => m_lit q
    · obtain rfl := beq_iff_eq.mp h
      exact pe_str.imp fun σ H Q q => m_lit q
    · cases h
  · cases h
theorem litE_of {a b : Lit} (h : litE a b = true) : a = b := by
  unfold litE at h
  split at h
  · rfl
  · rw [beq_iff_eq.mp h]
  · rw [beq_iff_eq.mp h]
  · rw [beq_iff_eq.mp h]
  · cases h
theorem s_con (C : CxOk Γ ER S W X) {n : Str} {c : Lit} {x : Expr} (h : kCon S n c x = true) : PE X x (tM X.K ER W G (infE S.sg G (.con n c)) (evE Γ (.con n c))) := by
  show PE X x (tM X.K ER W G {} fun ρ => .ok (c.d, ρ))
  unfold kCon at h
  split at h
  · rename_i y pos
    rw [Bool.and_eq_true, Bool.and_eq_true, Bool.and_eq_true, List.any_eq_true] at h
    obtain ⟨⟨⟨h1, h2⟩, h3⟩, p, hp, h4⟩ := h
    rw [Bool.and_eq_true] at h4
    obtain ⟨u, hu, hr⟩ := C.con p hp
    have e1 : p.1 = y := by simpa using h4.1
    rw [e1] at hu
    rw [litE_of h4.2] at hr
    exact (pe_glob (C.glo h3) hu hr (okN_of h2).1).imp fun σ H Q q => m_lit q
  · cases h
end
end Hx

set_option Elab.async false
set_option linter.all false
set_option maxRecDepth 100000
set_option maxHeartbeats 4000000
/-! H10: the rules of operations, comparisons, tests, subscripts. -/
/-! t[::-1] of a tuple -/
namespace HT
open PySem PyProof.Rows
section
variable {prog : Program} {w : World} {A : Around} {E : Value → Shared → Prop} {s : Shared}
theorem adjust_rev (n : Nat) : Builtin.Slice.sliceAdjust none none (-1) (n : Int) = ((n : Int) - 1, -1) := by
  unfold Builtin.Slice.sliceAdjust
  simp
theorem places_rev (n : Nat) : Builtin.Slice.slicePlaces ((n : Int) - 1) (-1) (-1) = n := by
  unfold Builtin.Slice.slicePlaces
  have h1 : ¬ ((-1 : Int) > 0) := by omega
  have h2 : (- -1 : Int) = 1 := by decide
  simp only [h1, if_false, h2, Int.ediv_one]
  split <;> omega
theorem fm_some {α β : Type} {f : α → Option β} {g : α → β} : ∀ {l : List α}, (∀ m ∈ l, f m = some (g m)) → l.filterMap f = l.map g
  | [], _ => rfl
  | x :: r, h => by
    rw [List.filterMap_cons, h x List.mem_cons_self, List.map_cons, fm_some fun m hm => h m (List.mem_cons_of_mem _ hm)]
theorem sliceApplied_rev {sl : Addr} {vl vu vs : Value} {n : Nat} {Q : Int × Int × Nat → Shared → Prop} (hs : s.heap.IsSliceOf sl vl vu vs) (pl : IsPart vl none) (pu : IsPart vu none) (ps : IsPart vs (some (-1)))
    (h : Q ((n : Int) - 1, -1, n) s) : wpAny (model prog w) A (Builtin.Slice.sliceApplied (.ref sl) (pure (n : Int))) Q E s := by
  obtain ⟨os, hos, hcs, hds⟩ := id hs
  unfold Builtin.Slice.sliceApplied Builtin.Slice.sliceFields
  refine wpAny_bind (wpAny_bind (wpAny_field hos hds (x := vl) rfl (wpAny_bind (wpAny_field hos hds (x := vu) rfl (wpAny_bind (wpAny_field hos hds (x := vs) rfl (wpAny_pure ?_)))))))
  refine wpAny_bind (slicePart_ ps ?_)
  show wpAny _ _ (if ((-1 : Int) == 0) = true then _ else _) _ _ s
  rw [if_neg (by decide)]
  refine wpAny_bind (slicePart_ pl (wpAny_bind (slicePart_ pu (wpAny_bind (wpAny_pure ?_)))))
  show wpAny _ _ (match Builtin.Slice.sliceAdjust none none (-1) (n : Int) with | (lo, hi) => pure (lo, (-1 : Int), Builtin.Slice.slicePlaces lo hi (-1))) _ _ s
  rw [adjust_rev n]
  show wpAny _ _ (pure ((n : Int) - 1, (-1 : Int), Builtin.Slice.slicePlaces ((n : Int) - 1) (-1) (-1))) _ _ s
  rw [places_rev]
  exact wpAny_pure h
theorem pick_rev (xs : Array Value) : ((List.range xs.size).filterMap fun (m : Nat) => xs[((xs.size : Int) - 1 + (m : Int) * (-1)).toNat]?).toArray = xs.toList.reverse.toArray := by
  congr 1
  have e : ∀ m ∈ List.range xs.size, xs[((xs.size : Int) - 1 + (m : Int) * (-1)).toNat]? = some (xs.toList.reverse.getD m .none) := fun m hm => by
    have hm' := List.mem_range.mp hm
    have e1 : ((xs.size : Int) - 1 + (m : Int) * (-1)).toNat = xs.size - 1 - m := by omega
    rw [e1, List.getD_eq_getElem?_getD, List.getElem?_reverse (by rw [Array.length_toList]; exact hm'), Array.length_toList, ← Array.getElem?_toList]
    have h2 : xs.size - 1 - m < xs.toList.length := by rw [Array.length_toList]; omega
    rw [List.getElem?_eq_getElem h2]
    rfl
  apply List.ext_getElem?
  intro i
  have e2 : (List.range xs.size).filterMap (fun (m : Nat) => xs[((xs.size : Int) - 1 + (m : Int) * (-1)).toNat]?) = (List.range xs.size).map fun m => xs.toList.reverse.getD m .none := fm_some e
  rw [e2, List.getElem?_map]
  by_cases hi : i < xs.size
  · rw [List.getElem?_range hi]
    have h3 : i < xs.toList.reverse.length := by rw [List.length_reverse, Array.length_toList]; exact hi
    simp only [Option.map_some]
    rw [List.getD_eq_getElem?_getD, List.getElem?_eq_getElem h3]
    rfl
  · rw [List.getElem?_eq_none (by simpa using hi), List.getElem?_eq_none (by simpa using hi)]
    rfl
theorem getItem_tuple_rev {t sl : Addr} {items : Array Value} {vl vu vs : Value} {Q : Value → Shared → Prop} (ht : IsTup s.heap t items) (hs : s.heap.IsSliceOf sl vl vu vs) (pl : IsPart vl none) (pu : IsPart vu none) (ps : IsPart vs (some (-1)))
    (h : Q (.ref s.heap.objs.size) { s with heap := s.heap.push { cls := .type "tuple", data := .seq items.toList.reverse.toArray } })
    (hsz : items.size ≤ sizeLine) : wpAny (model prog w) A (getItem (.ref t) (.ref sl)) Q E s := by
  have htake : sizeOk (.seq items.toList.reverse.toArray) := by
    show items.toList.reverse.toArray.size ≤ sizeLine
    rw [List.size_toArray, List.length_reverse, Array.length_toList]
    exact hsz
  obtain ⟨os, hos, hcs, hds⟩ := id hs
  have hTs : s.TypeIs (.ref sl) "slice" := ⟨os, hos, hcs⟩
  unfold getItem
  try with_reducible refine wpAny_holding ?_
  first | refine wpAny_bind (wpAny_pure ?_) | skip
  refine wpAny_bind (wpAny_sequenceKey ht.typeIs (by decide) ?_)
  refine wpAny_bind (wpAny_callSpecial?_slot (name := Str.ofString "__getitem__") ht.typeIs PyProof.Rows.slot_tuple_getitem
    (wpAny_call_entry PyProof.Rows.slot_tuple_getitem ht.typeIs entry_tuple_getitem ?_ (args_tuple_getitem _ _)))
  show wpAny _ _ (Builtin.Tuple.tupleItemsOf (.ref t) >>= _) _ _ s
  refine wpAny_bind (tupleItemsOf_ ht ?_)
  refine wpAny_bind (wpAny_typeOf hTs ?_)
  rw [if_pos (by decide)]
  refine wpAny_bind (sliceApplied_rev hs pl pu ps ?_)
  show wpAny _ _ (if ((items.size : Int) - 1 == 0 && (-1 : Int) == 1 && items.size == items.size) = true then _ else _) _ _ s
  have hno : ¬ (((items.size : Int) - 1 == 0 && (-1 : Int) == 1 && items.size == items.size) = true) := by
    intro q
    rw [Bool.and_eq_true, Bool.and_eq_true] at q
    exact absurd (eq_of_beq q.1.2) (by decide)
  rw [if_neg hno, pick_rev]
  first
    | exact wpAny_bind (m := Builtin.Tuple.tupleExact _) (wpAny_newObj_type (wpAny_pure ⟨_, rfl, wpAny_pure h⟩) htake)
    | exact wpAny_bind (m := Builtin.Tuple.tupleExact _) (wpAny_newObj_type (wpAny_bind (wpAny_pure (wpAny_pure ⟨_, rfl, wpAny_pure h⟩))) htake)
    | exact wpAny_bind (wpAny_bind (m := Builtin.Tuple.tupleExact _) (wpAny_newObj_type (wpAny_pure (wpAny_pure ⟨_, rfl, wpAny_pure h⟩)) htake))
    | exact wpAny_bind (wpAny_bind (m := Builtin.Tuple.tupleExact _) (wpAny_newObj_type (wpAny_pure ⟨_, rfl, wpAny_pure h⟩) htake))
end
end HT
namespace L2
open PySem PySem.Spec PyProof.Rows
/-- x[::-1], a list or a tuple -/
def tRevX (K : PySem.W.Frag) (te : TE) : TE := fun σ H Q => te σ H fun x H1 => ∃ a xs, x = .ref a ∧ ((SqL K H1 a xs ∧ ∀ p, H1 p = none → Q (.ref p) (upd H1 p (.lst xs.reverse))) ∨ (SqT K H1 a xs ∧ Hx.NewT H1 xs.reverse Q))
theorem pe_revX {X : Cx} {e : Expr} {te : TE} {k : Nat} {p1 p2 p3 pos : Pos} (he : PE X e te) : PE X (.Subscript e (.Slice none none (some (.UnaryOp .USub (.Constant (.int 1) k p1) p2)) p3) pos) (tRevX X.K te) := by
  refine ⟨fun pins s σ H Q I h => ?_⟩
  refine Subscript_ (thn (he.run pins s σ H _ I h) fun v s1 ⟨x, H1, I1, r1, q1⟩ => ?_)
  obtain ⟨a, xs, ex, hx⟩ := q1
  subst ex
  cases r1
  have hst : PO X (some (.UnaryOp .USub (.Constant (.int 1) k p1) p2)) (tPart (tUn (rU fun i => .int (-i)) (tC (.int 1)))) := po_some (pe_un un_neg pe_int)
  refine wpAny_Slice (thn (po_none.run pins s1 σ H1 (fun o H2 => o = none ∧ H2 = H1) I1 ⟨rfl, rfl⟩) fun vl s2 ⟨l, H2, I2, pl, el, e2⟩ => ?_)
  subst el e2
  refine thn (po_none.run pins s2 σ H2 (fun o H3 => o = none ∧ H3 = H2) I2 ⟨rfl, rfl⟩) fun vu s3 ⟨u, H3, I3, pu, eu, e3⟩ => ?_
  subst eu e3
  refine thn (hst.run pins s3 σ H3 (fun o H4 => o = some (-1) ∧ H4 = H3) I3 ⟨1, rfl, -1, rfl, rfl, rfl⟩) fun vs s4 ⟨o, H4, I4, ps, eo, e4⟩ => ?_
  subst eo e4
  have I5 : Inv X pins σ H4 { s4 with heap := s4.heap.push { cls := .type "slice", data := .fields #[vl, vu, vs] } } := I4.kept (t' := s4.toks) fun b ob q => Heap.get?_push_of_some _ q
  show wpAny (model X.prog X.w) X.A (subscriptTail e (.Slice none none (some (.UnaryOp .USub (.Constant (.int 1) k p1) p2)) p3) (.ref a) (.ref s4.heap.objs.size)) (EP X pins σ Q) X.xe { s4 with heap := s4.heap.push { cls := .type "slice", data := .fields #[vl, vu, vs] } }
  rcases hx with ⟨hx, q⟩ | ⟨hx, q⟩
  · obtain ⟨its, r, ht, hz⟩ := I5.list hx
    have hlen := r.length
    refine tail_any (ops := [.ref a, .ref s4.heap.objs.size]) ht.isList.typeIs (PySem.slot_list_getitem.lookup) ?_ (by with_unfolding_all rfl)
    refine wpAny_getItem_list_slice ht.isList (Heap.IsSliceOf.new _ vl vu vs) pl pu ps (by decide) ?_ (by rw [List.size_toArray]; omega)
    rw [PySem.W.krv_pick]
    refine ⟨.ref _, _, I5.laid (t' := s4.toks) (o := .lst xs.reverse) (fun b ob q => Heap.get?_push_of_some _ q) (Nat.le_refl _) ?_, rfl, q _ (I5.hok.fresh (Nat.le_refl _))⟩
    exact ⟨by rw [List.length_reverse]; exact hz, _, 0, r.reverse, Heap.get?_push_size _ rfl⟩
  · obtain ⟨its, r, ht, hz⟩ := I5.tuple hx
    have hlen := r.length
    refine tail_any (ops := [.ref a, .ref s4.heap.objs.size]) ht.typeIs (PyProof.Rows.slot_tuple_getitem.lookup) ?_ (by with_unfolding_all rfl)
    refine HT.getItem_tuple_rev ht (Heap.IsSliceOf.new _ vl vu vs) pl pu ps ?_ (by rw [List.size_toArray]; omega)
    exact Hx.plain_new (t' := s4.toks) I5 r.reverse (by rw [List.length_reverse]; exact hz) (Nat.le_refl _) (fun b ob q => Heap.get?_push_of_some _ q) (Heap.get?_push_size _ rfl) q
end L2

namespace Hx
open PySem PySem.Spec PyProof.Rows L2
theorem subL_refl (a : List Nat) : subL a a = true := List.all_eq_true.mpr fun i hi => by simpa using hi
theorem subL_l (a b : List Nat) : subL a (a ++ b) = true := List.all_eq_true.mpr fun i hi => by simp [hi]
theorem subL_r (a b : List Nat) : subL b (a ++ b) = true := List.all_eq_true.mpr fun i hi => by simp [hi]
theorem aft_of {G : List Nat} {a b : Inf} (h : aft G a b = true) : subL a.md G = true ∧ subL b.md G = true ∧ dis b.md (a.al ++ a.el) = true := by
  unfold aft at h
  rw [Bool.and_eq_true, Bool.and_eq_true] at h
  exact ⟨h.1.1, h.1.2, h.2⟩
theorem binB_of {o : BOp} {p : Operator} (h : binB o p = true) : p = opP o := by
  cases o <;> cases p <;> first | rfl | cases h
theorem cmpB_of {o : COp} {p : CmpOp} (h : cmpB o p = true) : p = copP o := by
  cases o <;> cases p <;> first | rfl | cases h
section
variable {Γ : List Callee} {ER : ERel} {S : SC} {W : WX} {X : Cx} {G : List Nat}
/-- what the rules of the parts say -/
abbrev JE (Γ : List Callee) (ER : ERel) (S : SC) (W : WX) (X : Cx) (G : List Nat) (e : IE) : Prop := ∀ x, chkE S G e x = true → PE X x (tM X.K ER W G (infE S.sg G e) (evE Γ e))
theorem bin_list {o : BOp} {x y d : PyData} {fa fb : Inf} (h : binD o x y = some d) (hl : binL o fa.ls fb.ls = true) (ha : fa.ls = true → ∃ xs, x = .list xs) (hb : fb.ls = true → ∃ xs, y = .list xs) : ∃ xs, d = .list xs := by
  cases o with
  | add =>
    have q : (∃ xs, x = .list xs) ∨ ∃ xs, y = .list xs := by
      rcases Bool.or_eq_true _ _ ▸ hl with z | z
      · exact .inl (ha z)
      · exact .inr (hb z)
    cases x with
    | list xs =>
      cases y with
      | list ys =>
        simp only [binD] at h
        split at h
        · cases h
          exact ⟨_, rfl⟩
        · cases h
      | _ => simp [binD] at h
    | int i =>
      cases y with
      | int j => rcases q with ⟨_, q⟩ | ⟨_, q⟩ <;> cases q
      | _ => simp [binD] at h
    | str i =>
      cases y with
      | str j => rcases q with ⟨_, q⟩ | ⟨_, q⟩ <;> cases q
      | _ => simp [binD] at h
    | tuple i =>
      cases y with
      | tuple j => rcases q with ⟨_, q⟩ | ⟨_, q⟩ <;> cases q
      | _ => simp [binD] at h
    | _ => simp [binD] at h
  | lmul =>
    obtain ⟨xs, rfl⟩ := ha hl
    cases y with
    | int k =>
      simp only [binD] at h
      split at h
      · cases h
        exact ⟨_, rfl⟩
      · cases h
    | _ => simp [binD] at h
  | sub => cases hl
  | mul => cases hl
  | fdiv => cases hl
  | mod => cases hl
  | pow => cases hl
theorem s_bin {o : BOp} {a b : IE} (ha : JE Γ ER S W X G a) (hb : JE Γ ER S W X G b) : JE Γ ER S W X G (.bin o a b) := by
  intro x h
  have h' : (kBin o (chkE S G a) (chkE S G b) x && aft G (infE S.sg G a) (infE S.sg G b) && lmulB o (infE S.sg G a)) = true := h
  rw [Bool.and_eq_true, Bool.and_eq_true] at h'
  obtain ⟨⟨h1, h2⟩, h3⟩ := h'
  unfold kBin at h1
  split at h1
  · rename_i y p z pos
    rw [Bool.and_eq_true, Bool.and_eq_true] at h1
    obtain ⟨⟨h4, h5⟩, h6⟩ := h1
    obtain ⟨m1, m2, m3⟩ := aft_of h2
    obtain rfl := binB_of h4
    obtain ⟨r, hr1, hr2⟩ := bin_ok (X := X) o
    refine (pe_op hr1 (ha y h5) (hb z h6)).imp fun σ H Q q => m_op2 (op := binD o) (F := fun d => d) (f := infE S.sg G (.bin o a b)) m2 m1 m3 (subL_refl _) (subL_refl _) rfl (fun hl x y d e la lb => bin_list e hl la lb) (fun z => z) ?_ q
    intro Z H2 x y v u d Q rv ru e dom fr q
    refine hr2 _ _ _ _ _ H2 x y d v u Q rv ru e (fun _ => Av.mono fun i hi => List.mem_append_left _ hi) (fun _ => Av.mono fun i hi => List.mem_append_right _ hi) dom (fun eo xs ex => ?_) q
    subst eo
    have h3' : ((infE S.sg G a).fr && (infE S.sg G a).ls) = true := h3
    rw [Bool.and_eq_true] at h3'
    obtain ⟨p, xs', ws, e1, e2, e3, e4⟩ := fr h3'.1
    rw [ex] at e1
    cases e1
    exact ⟨p, ws, e2, e3, e4⟩
  · cases h1
theorem plain_behind {e : Expr} {op : CmpOp} (h : plainX e = true) : behindInMarks op e = false := by
  cases e <;> first | rfl | cases h
/-- as a value, as a test -/
abbrev JB2 (Γ : List Callee) (ER : ERel) (S : SC) (W : WX) (X : Cx) (G : List Nat) (e : IE) : Prop := ∀ x, chkE S G e x = true → ∃ t, PE X x t ∧ PT X x (tTest t) ∧ ∀ σ H Q, tM X.K ER W G (infE S.sg G e) (evE Γ e) σ H Q → t σ H Q
theorem b_cmp (C : CxOk Γ ER S W X) {o : COp} {a b : IE} (ha : JE Γ ER S W X G a) (hb : JE Γ ER S W X G b) : JB2 Γ ER S W X G (.cmp o a b) := by
  intro x h
  have h' : (kCmp o (chkE S G a) (chkE S G b) x && aft G (infE S.sg G a) (infE S.sg G b)) = true := h
  rw [Bool.and_eq_true] at h'
  obtain ⟨h1, h2⟩ := h'
  unfold kCmp at h1
  split at h1
  · rename_i y p z pos
    rw [Bool.and_eq_true, Bool.and_eq_true, Bool.and_eq_true] at h1
    obtain ⟨⟨⟨h4, h5⟩, h6⟩, h7⟩ := h1
    obtain ⟨m1, m2, m3⟩ := aft_of h2
    obtain rfl := cmpB_of h4
    have un := C.un
    refine ⟨_, pe_cmpR (cmp_ok (X := X) (by omega) o) (ha y h5) (hb z h6) (plain_behind h7), pt_cmpR (cmp_ok (X := X) (by omega) o) (ha y h5) (hb z h6) (plain_behind h7), fun σ H Q q => m_op2 (op := cmpD o) (F := PyData.bool) (f := infE S.sg G (.cmp o a b)) m2 m1 m3 (subL_refl _) rfl rfl nofun nofun ?_ q⟩
    intro Z H2 x y v u d Q rv ru e dom fr q
    exact ⟨noA, noA, x, y, d, rv.no, ru.no, e, q.bool⟩
  · cases h1
theorem s_cmp (C : CxOk Γ ER S W X) {o : COp} {a b : IE} (ha : JE Γ ER S W X G a) (hb : JE Γ ER S W X G b) : JE Γ ER S W X G (.cmp o a b) := fun x h => by
  obtain ⟨t, h1, _, h3⟩ := b_cmp C ha hb x h
  exact h1.imp h3
theorem s_neg {a : IE} (ha : JE Γ ER S W X G a) : JE Γ ER S W X G (.neg a) := by
  intro x h
  have h' : (kNeg (chkE S G a) x && subL (infE S.sg G a).md G) = true := h
  rw [Bool.and_eq_true] at h'
  obtain ⟨h1, h2⟩ := h'
  unfold kNeg at h1
  split at h1
  · rename_i y pos
    refine (pe_un un_neg (ha y h1)).imp fun σ H Q q => m_op1 (op := negD) (F := PyData.int) (f := infE S.sg G (.neg a)) h2 (subL_refl _) rfl rfl nofun nofun ?_ q
    intro Z H2 x v i Q rv e dom q
    cases x with
    | int j =>
      simp only [negD, Option.some.injEq] at e
      subst e
      exact ⟨j, rv, q.int⟩
    | _ => simp [negD] at e
  · cases h1
theorem asB_of {x : PyData} {k : Bool} (h : asB x = some k) : x = .bool k := by
  cases x with
  | bool b =>
    simp only [asB, Option.some.injEq] at h
    rw [h]
  | _ => simp [asB] at h
theorem s_not {a : IE} (ha : JE Γ ER S W X G a) : JE Γ ER S W X G (.not a) := by
  intro x h
  have h' : (kNot (chkE S G a) x && subL (infE S.sg G a).md G) = true := h
  rw [Bool.and_eq_true] at h'
  obtain ⟨h1, h2⟩ := h'
  unfold kNot at h1
  split at h1
  · rename_i y pos
    refine (pe_not (ha y h1)).imp fun σ H Q q => ?_
    refine m_op1 (op := asB) (F := fun k => PyData.bool (!k)) (f := infE S.sg G (.not a)) (r := fun x H Q => ∃ c, x = .bl c ∧ Q (.bl (!c)) H) h2 (subL_refl _) rfl rfl nofun nofun ?_ q
    intro Z H2 x v i Q rv e dom q
    obtain rfl := asB_of e
    exact ⟨i, rv, q.bool⟩
  · cases h1
theorem s_isN {a : IE} {pos : Bool} (ha : JE Γ ER S W X G a) : JE Γ ER S W X G (.isN pos a) := by
  intro x h
  have h' : (kIsN pos (chkE S G a) x && subL (infE S.sg G a).md G) = true := h
  rw [Bool.and_eq_true] at h'
  obtain ⟨h1, h2⟩ := h'
  have key : ∀ (σ : L2.St) (H : Hp) (Q : VK), tM X.K ER W G (infE S.sg G (.isN pos a)) (evE Γ (.isN pos a)) σ H Q → tUn (fun x H Q => Q (.bl (decide (x = .non) == pos)) H) (tM X.K ER W G (infE S.sg G a) (evE Γ a)) σ H Q := fun σ H Q q => by
    refine m_op1 (op := fun x => some x) (F := fun x => PyData.bool (isNoneD x == pos)) (f := infE S.sg G (.isN pos a)) h2 (subL_refl _) rfl rfl nofun nofun ?_ q
    intro Z H2 x v i Q rv e dom q
    cases e
    have e2 : isNoneD x = decide (v = .non) := by
      cases x with
      | none => obtain rfl : v = .non := rv; rfl
      | bool b => obtain rfl : v = .bl b := rv; rfl
      | int b => obtain rfl : v = .int b := rv; rfl
      | str b => obtain rfl : v = .str b := rv; rfl
      | list b => obtain ⟨p, ws, rfl, _⟩ := rv; rfl
      | tuple b =>
        simp only [RepT, RepD] at rv
        obtain ⟨p, ws, rfl, _⟩ := rv; rfl
      | dict b => obtain ⟨p, ws, rfl, _⟩ := rv; rfl
    have := q.bool
    rw [e2] at this
    exact this
  unfold kIsN at h1
  split at h1
  · rename_i y p j p1 pos1
    rw [Bool.and_eq_true] at h1
    cases pos with
    | true =>
      cases p <;> first | cases h1.1 | skip
      refine (pe_cmp (pc_isN (ha y h1.2)) rfl).imp fun σ H Q q => ?_
      have := key σ H Q q
      unfold tUn at this
      simp only [beq_true] at this
      exact this
    | false =>
      cases p <;> first | cases h1.1 | skip
      refine (pe_cmp (pc_notN (ha y h1.2)) rfl).imp fun σ H Q q => ?_
      have := key σ H Q q
      unfold tUn at this
      simp only [beq_false] at this
      exact this
  · cases h1
end
end Hx

set_option Elab.async false
set_option linter.all false
set_option maxRecDepth 100000
set_option maxHeartbeats 4000000
/-! H11: chains, and, or, conditions, tests, argument lists, displays. -/
namespace Hx
open PySem PySem.Spec PyProof.Rows L2

theorem dis_l {m a b : List Nat} (h : dis m (a ++ b) = true) : dis m a = true := List.all_eq_true.mpr fun i hi => by
  have := dis_of h i hi
  simp only [List.mem_append, not_or] at this
  simp [this.1]
theorem dis_r {m a b : List Nat} (h : dis m (a ++ b) = true) : dis m b = true := List.all_eq_true.mpr fun i hi => by
  have := dis_of h i hi
  simp only [List.mem_append, not_or] at this
  simp [this.2]
theorem subL_app {a b c : List Nat} (h : subL a c = true) (k : subL b c = true) : subL (a ++ b) c = true := List.all_eq_true.mpr fun i hi => by
  rcases List.mem_append.mp hi with z | z
  · simpa using subL_of h i z
  · simpa using subL_of k i z
def esF (sg : List Sig) (G : List Nat) : IEs → List Inf
  | .nil => []
  | .cons a es => infE sg G a :: esF sg G es
structure ArgsAt (K : PySem.W.Frag) (Z : Zone) (G : List Nat) (σ : L2.St) (H : Hp) (fs : List Inf) (ds : List PyData) (vs : List V) : Prop where
  ld : ds.length = fs.length
  lv : vs.length = fs.length
  at_ : ∀ (k : Nat) (f : Inf) (d : PyData) (v : V), fs[k]? = some f → ds[k]? = some d → vs[k]? = some v → RepT K (Av Z G f.al σ) (Av Z G f.el σ) H d v ∧ ∀ i, f.vr = some i → σ[i]? = some (some v)
section
variable (K : PySem.W.Frag) (ER : ERel) (W : WX) (G : List Nat) (fs : List Inf) (md : List Nat)
def tMs (m : Env → Res (List PyData × Env)) : TA := fun σ H Q => ∃ Z ρ, Rep K Z G ρ σ H ∧ Wp (ExW K ER W Z G σ) (fun p => ∀ vs H', ArgsAt K Z G σ H' fs p.1 vs → Rep K Z G p.2 σ H' → Kp md σ H H' → Q vs H') (m ρ)
end
section
variable {Γ : List Callee} {ER : ERel} {S : SC} {W : WX} {X : Cx} {G : List Nat}
abbrev JEs (Γ : List Callee) (ER : ERel) (S : SC) (W : WX) (X : Cx) (G : List Nat) (es : IEs) : Prop := ∀ xs, chkEs S G es xs = true → PA X xs (tMs X.K ER W G (esF S.sg G es) (infEs S.sg G es).md (evEs Γ es))
abbrev JT (Γ : List Callee) (ER : ERel) (S : SC) (W : WX) (X : Cx) (G : List Nat) (c : IC) : Prop := ∀ x, chkT S G c x = true → PT X x (tMt X.K ER W G { md := mdT S.sg G c } (evT Γ c))
theorem b_chain (C : CxOk Γ ER S W X) {o p : COp} {a b c : IE} (ha : JE Γ ER S W X G a) (hb : JE Γ ER S W X G b) (hc : JE Γ ER S W X G c) : JB2 Γ ER S W X G (.chain o p a b c) := by
  intro x h
  have h' : (kChain o p (chkE S G a) (chkE S G b) (chkE S G c) x && aft G (infE S.sg G a) (infE S.sg G b) && aft G (infE S.sg G b) (infE S.sg G c)) = true := h
  rw [Bool.and_eq_true, Bool.and_eq_true] at h'
  obtain ⟨⟨h1, h2⟩, h3⟩ := h'
  unfold kChain at h1
  split at h1
  · rename_i y q r z w pos
    rw [Bool.and_eq_true, Bool.and_eq_true, Bool.and_eq_true, Bool.and_eq_true, Bool.and_eq_true, Bool.and_eq_true] at h1
    obtain ⟨⟨⟨⟨⟨⟨k1, k2⟩, k3⟩, k4⟩, k5⟩, k6⟩, k7⟩ := h1
    obtain ⟨m1, m2, m3⟩ := aft_of h2
    obtain ⟨n1, n2, n3⟩ := aft_of h3
    obtain rfl := cmpB_of k1
    obtain rfl := cmpB_of k2
    have un := C.un
    have hm : lastMarks [copP o, copP p] [z, w] = false := by
      show behindInMarks (copP p) w = false
      exact plain_behind k7
    refine ⟨_, pe_chain (cmp_ok (X := X) (by omega) o) (cmp_ok (X := X) (by omega) p) (ha y k3) (hb z k4) (hc w k5) hm, pt_chain (cmp_ok (X := X) (by omega) o) (cmp_ok (X := X) (by omega) p) (ha y k3) (hb z k4) (hc w k5) hm, fun σ H Q hq => ?_⟩
    obtain ⟨Z, ρ, R, w0⟩ := hq
    have w0' : Wp (ExW X.K ER W Z G σ) (fun p' => PostE X.K Z G (infE S.sg G (.chain o p a b c)) σ H p' Q) ((evE Γ a ρ).bnd fun pa => (evE Γ b pa.2).bnd fun pb => (Res.of (cmpD o pa.1 pb.1)).bnd fun k =>
      if k = true then (evE Γ c pb.2).bnd fun pc => (Res.of (cmpD p pb.1 pc.1)).bnd fun d => .ok (.bool d, pc.2) else .ok (.bool false, pb.2)) := w0
    refine ⟨Z, ρ, R, (wp_bnd w0').mono fun pa w1 v H1 rv _ _ _ R1 q1 => ?_⟩
    refine ⟨Z, pa.2, R1, (wp_bnd w1).mono fun pb w2 u H2 ru _ _ _ R2 q2 => ?_⟩
    obtain ⟨k, ek, w3⟩ := wp_of w2
    have rv2 := rv.keep (q2.av m2 (dis_l m3)) (q2.av m2 (dis_r m3))
    refine ⟨noA, noA, pa.1, pb.1, k, rv2.no, ru.no, ek, k, rfl, ?_⟩
    have K2 : Kp ((infE S.sg G a).md ++ (infE S.sg G b).md) σ H H2 := q1.left.trans q2.right
    cases k with
    | false =>
      rw [if_neg (by decide)] at w3 ⊢
      exact w3 (.bl false) H2 rfl nofun nofun nofun R2 K2.left
    | true =>
      rw [if_pos rfl] at w3 ⊢
      refine ⟨Z, pb.2, R2, (wp_bnd w3).mono fun pc w4 t H3 rt _ _ _ R3 q3 => ?_⟩
      obtain ⟨d, ed, w5⟩ := wp_of w4
      have ru3 := ru.keep (q3.av n2 (dis_l n3)) (q3.av n2 (dis_r n3))
      exact ⟨noA, noA, pb.1, pc.1, d, ru3.no, rt.no, ed, w5 (.bl d) H3 rfl nofun nofun nofun R3 (K2.left.trans q3.right)⟩
  · cases h1
theorem s_chain (C : CxOk Γ ER S W X) {o p : COp} {a b c : IE} (ha : JE Γ ER S W X G a) (hb : JE Γ ER S W X G b) (hc : JE Γ ER S W X G c) : JE Γ ER S W X G (.chain o p a b c) := fun x h => by
  obtain ⟨t, h1, _, h3⟩ := b_chain C ha hb hc x h
  exact h1.imp h3
theorem Wp.monoE {α : Type} {E : Str → List PyData → Env → Prop} {P P' : α → Prop} {r : Res α} (h : Wp E P r) (k : ∀ a, r = .ok a → P a → P' a) : Wp E P' r := by
  cases r with
  | ok a => exact k a rfl h
  | exc c xs ρ => exact h
  | stuck => exact h
theorem ok_bnd {α β : Type} {r : Res α} {f : α → Res β} {b : β} (h : r.bnd f = .ok b) : ∃ a, r = .ok a ∧ f a = .ok b := by
  cases r with
  | ok a => exact ⟨a, rfl, h⟩
  | exc c xs ρ => cases h
  | stuck => cases h
theorem cmpE_bool : ∀ {e : IE} {ρ : Env} {p : PyData × Env}, isCmpE e = true → evE Γ e ρ = .ok p → ∃ k, p.1 = .bool k
  | .cmp o a b, ρ, p, _, h => by
    have h' : ((evE Γ a ρ).bnd fun pa => (evE Γ b pa.2).bnd fun pb => (Res.of (cmpD o pa.1 pb.1)).bnd fun d => (.ok (.bool d, pb.2) : Res (PyData × Env))) = .ok p := h
    obtain ⟨pa, _, h1⟩ := ok_bnd h'
    obtain ⟨pb, _, h2⟩ := ok_bnd h1
    obtain ⟨d, _, h3⟩ := ok_bnd h2
    cases h3
    exact ⟨_, rfl⟩
  | .chain o o' a b c, ρ, p, _, h => by
    have h' : ((evE Γ a ρ).bnd fun pa => (evE Γ b pa.2).bnd fun pb => (Res.of (cmpD o pa.1 pb.1)).bnd fun k =>
      if k = true then (evE Γ c pb.2).bnd fun pc => (Res.of (cmpD o' pb.1 pc.1)).bnd fun d => (.ok (.bool d, pc.2) : Res (PyData × Env)) else .ok (.bool false, pb.2)) = .ok p := h
    obtain ⟨pa, _, h1⟩ := ok_bnd h'
    obtain ⟨pb, _, h2⟩ := ok_bnd h1
    obtain ⟨k, _, h3⟩ := ok_bnd h2
    split at h3
    · obtain ⟨pc, _, h4⟩ := ok_bnd h3
      obtain ⟨d, _, h5⟩ := ok_bnd h4
      cases h5
      exact ⟨_, rfl⟩
    · cases h3
      exact ⟨_, rfl⟩
/-- a comparison as a test -/
theorem m_cmpT {e : IE} {t : TE} {σ : L2.St} {H : Hp} {Q : Bool → Hp → Prop} (he : isCmpE e = true) (ht : ∀ σ H Q, tM X.K ER W G (infE S.sg G e) (evE Γ e) σ H Q → t σ H Q) (hq : tMt X.K ER W G { md := mdT S.sg G (.val e) } (evT Γ (.val e)) σ H Q) : tTest t σ H Q := by
  refine ht _ _ _ ?_
  obtain ⟨Z, ρ, R, w0⟩ := hq
  have w0' : Wp (ExW X.K ER W Z G σ) (fun p' => PostT X.K Z G { md := mdT S.sg G (.val e) } σ H p' Q) ((evE Γ e ρ).bnd fun p => (Res.of (truD p.1)).bnd fun k => .ok (k, p.2)) := w0
  refine ⟨Z, ρ, R, (wp_bnd w0').monoE fun p hp w1 v H1 rv _ _ _ R1 q1 => ?_⟩
  obtain ⟨k, hk⟩ := cmpE_bool he hp
  rw [hk] at w1 rv
  exact ⟨k, rv, w1 H1 R1 q1⟩
/-! ### conditions -/
theorem s_ite {c : IC} {a b : IE} (hc : JT Γ ER S W X G c) (ha : JE Γ ER S W X G a) (hb : JE Γ ER S W X G b) : JE Γ ER S W X G (.ite c a b) := by
  intro x h
  have h' : (kIte (chkT S G c) (chkE S G a) (chkE S G b) x && subL (mdT S.sg G c) G) = true := h
  rw [Bool.and_eq_true] at h'
  obtain ⟨h1, h2⟩ := h'
  unfold kIte at h1
  split at h1
  · rename_i t y z pos
    rw [Bool.and_eq_true, Bool.and_eq_true] at h1
    obtain ⟨⟨k1, k2⟩, k3⟩ := h1
    refine (pe_ifExp (hc t k1) (ha y k2) (hb z k3)).imp fun σ H Q hq => ?_
    obtain ⟨Z, ρ, R, w0⟩ := hq
    have w0' : Wp (ExW X.K ER W Z G σ) (fun p' => PostE X.K Z G (infE S.sg G (.ite c a b)) σ H p' Q) ((evT Γ c ρ).bnd fun p => if p.1 = true then evE Γ a p.2 else evE Γ b p.2) := w0
    refine ⟨Z, ρ, R, (wp_bnd w0').mono fun p w1 H1 R1 q1 => ?_⟩
    have fin : ∀ (f : Inf) (p' : PyData × Env), (∀ i ∈ f.al, i ∈ (infE S.sg G (.ite c a b)).al) → (∀ i ∈ f.el, i ∈ (infE S.sg G (.ite c a b)).el) → (∀ i ∈ f.md, i ∈ (infE S.sg G a).md ++ (infE S.sg G b).md) → ((infE S.sg G (.ite c a b)).fr = true → f.fr = true) → ((infE S.sg G (.ite c a b)).ls = true → f.ls = true) →
        PostE X.K Z G (infE S.sg G (.ite c a b)) σ H p' Q → PostE X.K Z G f σ H1 p' Q := fun f p' e1 e2 e3 e4 e5 w v H' rv fr ls vr R' k => by
      refine w v H' (rv.mono (fun _ => Av.mono e1) fun _ => Av.mono e2) (fun z => ?_) (fun z => ls (e5 z)) nofun R' ?_
      · obtain ⟨⟨p, xs, vs, f1, f2, f3, f4, r⟩, rp⟩ := fr (e4 z)
        exact ⟨⟨p, xs, vs, f1, f2, R1.older q1 h2 f3, f4, RepA.mono (fun _ z => z.imp (Av.mono e2) id) _ _ r⟩, rp⟩
      · refine (q1.mono fun i hi => ?_).trans (k.mono fun i hi => ?_)
        · show i ∈ mdT S.sg G c ++ (infE S.sg G a).md ++ (infE S.sg G b).md
          rw [List.append_assoc]
          exact List.mem_append_left _ hi
        · show i ∈ mdT S.sg G c ++ (infE S.sg G a).md ++ (infE S.sg G b).md
          rw [List.append_assoc]
          exact List.mem_append_right _ (e3 i hi)
    cases e : p.1 with
    | true =>
      rw [e, if_pos rfl] at w1
      (try dsimp only)
      rw [if_pos rfl]
      refine ⟨Z, p.2, R1, w1.mono fun p' w => fin _ p' (fun i hi => List.mem_append_left _ hi) (fun i hi => List.mem_append_left _ hi) (fun i hi => List.mem_append_left _ hi) (fun z => ?_) (fun z => ?_) w⟩
      · exact (Bool.and_eq_true _ _ ▸ (show ((infE S.sg G a).fr && (infE S.sg G b).fr) = true from z)).1
      · exact (Bool.and_eq_true _ _ ▸ (show ((infE S.sg G a).ls && (infE S.sg G b).ls) = true from z)).1
    | false =>
      rw [e, if_neg (by decide)] at w1
      (try dsimp only)
      rw [if_neg (by decide)]
      refine ⟨Z, p.2, R1, w1.mono fun p' w => fin _ p' (fun i hi => List.mem_append_right _ hi) (fun i hi => List.mem_append_right _ hi) (fun i hi => List.mem_append_right _ hi) (fun z => ?_) (fun z => ?_) w⟩
      · exact (Bool.and_eq_true _ _ ▸ (show ((infE S.sg G a).fr && (infE S.sg G b).fr) = true from z)).2
      · exact (Bool.and_eq_true _ _ ▸ (show ((infE S.sg G a).ls && (infE S.sg G b).ls) = true from z)).2
  · cases h1
/-! ### tests -/
theorem t_val {e : IE} (he : JE Γ ER S W X G e) (hc : isCmpE e = true → JB2 Γ ER S W X G e) : JT Γ ER S W X G (.val e) := by
  intro x h
  have h' : ((kTest (chkE S G e) x || (isCmpE e && chkE S G e x)) && subL (infE S.sg G e).md G) = true := h
  rw [Bool.and_eq_true, Bool.or_eq_true] at h'
  obtain ⟨h1, h2⟩ := h'
  rcases h1 with h1 | h1
  rotate_left
  · rw [Bool.and_eq_true] at h1
    obtain ⟨t, _, ht, hi⟩ := hc h1.1 x h1.2
    exact ht.imp fun σ H Q hq => m_cmpT h1.1 hi hq
  unfold kTest at h1
  rw [Bool.and_eq_true] at h1
  refine (pt_truth (he x h1.1) (fun whole => ?_)).imp fun σ H Q hq => ?_
  · have hv := h1.2
    cases x with
    | UnaryOp op e pos => cases op <;> first | rfl | cases hv
    | _ => first | rfl | cases hv
  · obtain ⟨Z, ρ, R, w0⟩ := hq
    have w0' : Wp (ExW X.K ER W Z G σ) (fun p' => PostT X.K Z G { md := mdT S.sg G (.val e) } σ H p' Q) ((evE Γ e ρ).bnd fun p => (Res.of (truD p.1)).bnd fun k => .ok (k, p.2)) := w0
    refine ⟨Z, ρ, R, (wp_bnd w0').mono fun p w1 v H1 rv _ _ _ R1 q1 => ?_⟩
    obtain ⟨k, ek, w3⟩ := wp_of w1
    exact ⟨k, tru_of rv.no ek, w3 H1 R1 q1⟩
theorem t_not {c : IC} (hc : JT Γ ER S W X G c) : JT Γ ER S W X G (.not c) := by
  intro x h
  have h1 : kNot (chkT S G c) x = true := h
  unfold kNot at h1
  split at h1
  · rename_i y pos
    refine (pt_not (hc y h1)).imp fun σ H Q hq => ?_
    obtain ⟨Z, ρ, R, w0⟩ := hq
    have w0' : Wp (ExW X.K ER W Z G σ) (fun p' => PostT X.K Z G { md := mdT S.sg G (.not c) } σ H p' Q) ((evT Γ c ρ).bnd fun p => .ok (!p.1, p.2)) := w0
    exact ⟨Z, ρ, R, (wp_bnd w0').mono fun p w1 H1 R1 q1 => w1 H1 R1 q1⟩
  · cases h1
/-- all of several tests; one of them; a clause's tests -/
structure JCs (Γ : List Callee) (ER : ERel) (S : SC) (W : WX) (X : Cx) (G : List Nat) (cs : ICs) : Prop where
  and_ : ∀ ys pos, chkCs S G cs ys = true → ices cs = true → PW X (.BoolOp .And ys pos) (tMt X.K ER W G { md := mdCs S.sg G cs } (evCs Γ cs))
  or_ : ∀ ys pos, chkCs S G cs ys = true → ices cs = true → PW X (.BoolOp .Or ys pos) (tMt X.K ER W G { md := mdCs S.sg G cs } (evDs Γ cs))
  all_ : ∀ ys, chkCs S G cs ys = true → PTs X ys (tMt X.K ER W G { md := mdCs S.sg G cs } (evCs Γ cs))
theorem PTs.imp {X : Cx} {e : List Expr} {t t' : TT} (h : PTs X e t') (k : ∀ σ H Q, t σ H Q → t' σ H Q) : PTs X e t := ⟨fun pins s σ H Q I q => h.run pins s σ H Q I (k σ H Q q)⟩
theorem PW.imp {X : Cx} {e : Expr} {t t' : TT} (h : PW X e t') (k : ∀ σ H Q, t σ H Q → t' σ H Q) : PW X e t := ⟨fun wh pins s σ H Q I q => h.run wh pins s σ H Q I (k σ H Q q)⟩
theorem cs_nil : JCs Γ ER S W X G .nil := by
  refine ⟨fun ys pos _ z => (by cases z), fun ys pos _ z => (by cases z), fun ys h => ?_⟩
  have h' : ys.isEmpty = true := h
  obtain rfl := List.isEmpty_iff.mp h'
  refine PTs.imp pts_nil fun σ H Q hq => ?_
  obtain ⟨Z, ρ, R, w0⟩ := hq
  exact w0 H R Kp.refl
theorem m_tests {c : IC} {cs : ICs} {σ : L2.St} {H : Hp} {Q : Bool → Hp → Prop} (hq : tMt X.K ER W G { md := mdCs S.sg G (.cons c cs) } (evCs Γ (.cons c cs)) σ H Q) :
    tAnd (tMt X.K ER W G { md := mdT S.sg G c } (evT Γ c)) (tMt X.K ER W G { md := mdCs S.sg G cs } (evCs Γ cs)) σ H Q := by
  obtain ⟨Z, ρ, R, w0⟩ := hq
  have w0' : Wp (ExW X.K ER W Z G σ) (fun p' => PostT X.K Z G { md := mdCs S.sg G (.cons c cs) } σ H p' Q) ((evT Γ c ρ).bnd fun p => if p.1 = true then evCs Γ cs p.2 else .ok (false, p.2)) := w0
  refine ⟨Z, ρ, R, (wp_bnd w0').mono fun p w1 H1 R1 q1 => ?_⟩
  cases e : p.1 with
  | true =>
    rw [e, if_pos rfl] at w1
    (try dsimp only)
    rw [if_pos rfl]
    exact ⟨Z, p.2, R1, w1.mono fun p' w H2 R2 q2 => w H2 R2 (q1.left.trans q2.right)⟩
  | false =>
    rw [e, if_neg (by decide)] at w1
    (try dsimp only)
    rw [if_neg (by decide)]
    exact w1 H1 R1 q1.left
theorem m_testsOr {c : IC} {cs : ICs} {σ : L2.St} {H : Hp} {Q : Bool → Hp → Prop} (hq : tMt X.K ER W G { md := mdCs S.sg G (.cons c cs) } (evDs Γ (.cons c cs)) σ H Q) :
    tOr (tMt X.K ER W G { md := mdT S.sg G c } (evT Γ c)) (tMt X.K ER W G { md := mdCs S.sg G cs } (evDs Γ cs)) σ H Q := by
  obtain ⟨Z, ρ, R, w0⟩ := hq
  have w0' : Wp (ExW X.K ER W Z G σ) (fun p' => PostT X.K Z G { md := mdCs S.sg G (.cons c cs) } σ H p' Q) ((evT Γ c ρ).bnd fun p => if p.1 = true then .ok (true, p.2) else evDs Γ cs p.2) := w0
  refine ⟨Z, ρ, R, (wp_bnd w0').mono fun p w1 H1 R1 q1 => ?_⟩
  cases e : p.1 with
  | false =>
    rw [e, if_neg (by decide)] at w1
    (try dsimp only)
    rw [if_neg (by decide)]
    exact ⟨Z, p.2, R1, w1.mono fun p' w H2 R2 q2 => w H2 R2 (q1.left.trans q2.right)⟩
  | true =>
    rw [e, if_pos rfl] at w1
    (try dsimp only)
    rw [if_pos rfl]
    exact w1 H1 R1 q1.left
theorem m_one {c : IC} {σ : L2.St} {H : Hp} {Q : Bool → Hp → Prop} (hq : tMt X.K ER W G { md := mdCs S.sg G (.cons c .nil) } (evCs Γ (.cons c .nil)) σ H Q) : tMt X.K ER W G { md := mdT S.sg G c } (evT Γ c) σ H Q := by
  obtain ⟨Z, ρ, R, w0⟩ := hq
  have w0' : Wp (ExW X.K ER W Z G σ) (fun p' => PostT X.K Z G { md := mdCs S.sg G (.cons c .nil) } σ H p' Q) ((evT Γ c ρ).bnd fun p => if p.1 = true then .ok (true, p.2) else .ok (false, p.2)) := w0
  refine ⟨Z, ρ, R, (wp_bnd w0').mono fun p w1 H1 R1 q1 => ?_⟩
  cases e : p.1 with
  | true => rw [e, if_pos rfl] at w1; exact w1 H1 R1 q1.left
  | false => rw [e, if_neg (by decide)] at w1; exact w1 H1 R1 q1.left
theorem m_oneOr {c : IC} {σ : L2.St} {H : Hp} {Q : Bool → Hp → Prop} (hq : tMt X.K ER W G { md := mdCs S.sg G (.cons c .nil) } (evDs Γ (.cons c .nil)) σ H Q) : tMt X.K ER W G { md := mdT S.sg G c } (evT Γ c) σ H Q := by
  obtain ⟨Z, ρ, R, w0⟩ := hq
  have w0' : Wp (ExW X.K ER W Z G σ) (fun p' => PostT X.K Z G { md := mdCs S.sg G (.cons c .nil) } σ H p' Q) ((evT Γ c ρ).bnd fun p => if p.1 = true then .ok (true, p.2) else .ok (false, p.2)) := w0
  refine ⟨Z, ρ, R, (wp_bnd w0').mono fun p w1 H1 R1 q1 => ?_⟩
  cases e : p.1 with
  | true => rw [e, if_pos rfl] at w1; exact w1 H1 R1 q1.left
  | false => rw [e, if_neg (by decide)] at w1; exact w1 H1 R1 q1.left
theorem wpAny_tests_cons {M : Model} {A : Around} {E : Value → Shared → Prop} {s : Shared} {env : PySem.Env} {c : Expr} {cs : List Expr} {Q : Bool → Shared → Prop}
    (h : wpAny M A (isTrue c env (eval c env)) (fun b s' => if b = true then wpAny M A (forIn cs true fun c r => if r = true then do let ok ← isTrue c env (eval c env); pure (ForInStep.yield ok) else pure (ForInStep.yield r)) Q E s' else Q false s') E s) :
    wpAny M A (forIn (c :: cs) true fun c r => if r = true then do let ok ← isTrue c env (eval c env); pure (ForInStep.yield ok) else pure (ForInStep.yield r)) Q E s := by
  have skip : ∀ (l : List Expr) (s : Shared), Q false s → wpAny M A (forIn l false fun c r => if r = true then do let ok ← isTrue c env (eval c env); pure (ForInStep.yield ok) else pure (ForInStep.yield r)) Q E s := by
    intro l
    induction l with
    | nil =>
      intro s q
      rw [List.forIn_nil]
      exact wpAny_pure q
    | cons d r ih =>
      intro s q
      rw [List.forIn_cons, if_neg (by decide)]
      exact wpAny_bind (wpAny_pure (ih s q))
  rw [List.forIn_cons, if_pos rfl]
  refine wpAny_bind (wpAny_bind (wpAny_mono h (fun b s' q => ?_) fun _ _ e => e))
  refine wpAny_pure ?_
  cases b with
  | true => exact q
  | false => exact skip cs s' q
theorem pts_cons {c : Expr} {cs : List Expr} {t u : TT} (h : PT X c t) (k : PTs X cs u) : PTs X (c :: cs) (tAnd t u) := ⟨fun pins s σ H Q I hw => by
  refine wpAny_tests_cons (thn (h.run pins s σ H _ I hw) fun b s1 ⟨H1, I1, q1⟩ => ?_)
  cases b with
  | true => exact k.run pins s1 σ H1 Q I1 q1
  | false => exact ⟨H1, I1, q1⟩⟩
theorem cs_cons {c : IC} {cs : ICs} (hc : JT Γ ER S W X G c) (hs : JCs Γ ER S W X G cs) : JCs Γ ER S W X G (.cons c cs) := by
  have un : ∀ {ys : List Expr}, chkCs S G (.cons c cs) ys = true → ∃ z zs, ys = z :: zs ∧ chkT S G c z = true ∧ chkCs S G cs zs = true := fun {ys} h => by
    have h' : kTests (chkT S G c) (chkCs S G cs) ys = true := h
    cases ys with
    | nil => cases h'
    | cons z zs => exact ⟨z, zs, rfl, Bool.and_eq_true _ _ ▸ h'⟩
  refine ⟨fun ys pos h _ => ?_, fun ys pos h _ => ?_, fun ys h => ?_⟩
  · obtain ⟨z, zs, rfl, h1, h2⟩ := un h
    cases cs with
    | nil =>
      have h2' : zs.isEmpty = true := h2
      obtain rfl := List.isEmpty_iff.mp h2'
      exact PW.imp (pw_and1 (hc z h1)) fun σ H Q q => m_one q
    | cons c' cs' =>
      cases zs with
      | nil => cases (show kTests (chkT S G c') (chkCs S G cs') [] = true from h2)
      | cons z' zs' => exact PW.imp (pw_and (hc z h1) (hs.and_ _ pos h2 rfl)) fun σ H Q q => m_tests q
  · obtain ⟨z, zs, rfl, h1, h2⟩ := un h
    cases cs with
    | nil =>
      have h2' : zs.isEmpty = true := h2
      obtain rfl := List.isEmpty_iff.mp h2'
      exact PW.imp (pw_or1 (hc z h1)) fun σ H Q q => m_oneOr q
    | cons c' cs' =>
      cases zs with
      | nil => cases (show kTests (chkT S G c') (chkCs S G cs') [] = true from h2)
      | cons z' zs' => exact PW.imp (pw_or (hc z h1) (hs.or_ _ pos h2 rfl)) fun σ H Q q => m_testsOr q
  · obtain ⟨z, zs, rfl, h1, h2⟩ := un h
    exact PTs.imp (pts_cons (hc z h1) (hs.all_ zs h2)) fun σ H Q q => m_tests q
theorem PW.pt {e : Expr} {t : TT} (h : PW X e t) : PT X e t := ⟨fun pins s σ H Q I q => h.run _ pins s σ H Q I q⟩
theorem t_and {c : IC} {cs : ICs} (hc : JT Γ ER S W X G c) (hs : JCs Γ ER S W X G cs) : JT Γ ER S W X G (.and c cs) := by
  intro x h
  have h' : (kAnd (chkT S G c) (chkCs S G cs) x && ices cs) = true := h
  rw [Bool.and_eq_true] at h'
  obtain ⟨h1, h2⟩ := h'
  unfold kAnd at h1
  split at h1
  · rename_i y ys pos
    rw [Bool.and_eq_true] at h1
    have q := (cs_cons hc hs).and_ (y :: ys) pos (show kTests (chkT S G c) (chkCs S G cs) (y :: ys) = true from by
      show (chkT S G c y && chkCs S G cs ys) = true
      rw [h1.1, h1.2]
      rfl) rfl
    exact (PW.pt q).imp fun σ H Q q => q
  · cases h1
theorem t_or {c : IC} {cs : ICs} (hc : JT Γ ER S W X G c) (hs : JCs Γ ER S W X G cs) : JT Γ ER S W X G (.or c cs) := by
  intro x h
  have h' : (kOr (chkT S G c) (chkCs S G cs) x && ices cs) = true := h
  rw [Bool.and_eq_true] at h'
  obtain ⟨h1, h2⟩ := h'
  unfold kOr at h1
  split at h1
  · rename_i y ys pos
    rw [Bool.and_eq_true] at h1
    have q := (cs_cons hc hs).or_ (y :: ys) pos (show kTests (chkT S G c) (chkCs S G cs) (y :: ys) = true from by
      show (chkT S G c y && chkCs S G cs ys) = true
      rw [h1.1, h1.2]
      rfl) rfl
    exact (PW.pt q).imp fun σ H Q q => q
  · cases h1
end
end Hx

set_option Elab.async false
set_option linter.all false
set_option maxRecDepth 100000
set_option maxHeartbeats 4000000
/-! H12: argument lists, displays, and/or as values, built-in functions, subscripts. -/
namespace Hx
open PySem PySem.Spec PyProof.Rows L2

theorem star_plain {e : Expr} {es : List Expr} {env : PySem.Env} (h : plainX e = true) : starEach (e :: es) env = (false, eval e env) :: starEach es env := by
  cases e <;> first | rfl | cases h
theorem star_any {env : PySem.Env} {pos : Pos} : ∀ {es : List Expr}, es.all plainX = true → (backTo pos (starEach es env)).any (·.1) = false
  | [], _ => rfl
  | e :: es, h => by
    rw [List.all_cons, Bool.and_eq_true] at h
    rw [star_plain h.1]
    show (false || (backTo pos (starEach es env)).any (·.1)) = false
    rw [star_any h.2]
    rfl
section
variable {Γ : List Callee} {ER : ERel} {S : SC} {W : WX} {X : Cx} {G : List Nat}
theorem es_plain : ∀ {es : IEs} {xs : List Expr}, chkEs S G es xs = true → xs.all plainX = true ∧ xs.length = iesLen es
  | .nil, xs, h => by
    have h' : xs.isEmpty = true := h
    obtain rfl := List.isEmpty_iff.mp h'
    exact ⟨rfl, rfl⟩
  | .cons a es, xs, h => by
    have h' : (kCons (chkE S G a) (chkEs S G es) xs && aft G (infE S.sg G a) (infEs S.sg G es)) = true := h
    rw [Bool.and_eq_true] at h'
    cases xs with
    | nil => cases (show false = true from h'.1)
    | cons y ys =>
      have h1 : (chkE S G a y && plainX y && chkEs S G es ys) = true := h'.1
      rw [Bool.and_eq_true, Bool.and_eq_true] at h1
      obtain ⟨p, l⟩ := es_plain h1.2
      exact ⟨by rw [List.all_cons, h1.1.2, p]; rfl, by rw [List.length_cons, l]; rfl⟩
theorem es_nil : JEs Γ ER S W X G .nil := by
  intro xs h
  have h' : xs.isEmpty = true := h
  obtain rfl := List.isEmpty_iff.mp h'
  refine pa_nil.imp fun σ H Q hq => ?_
  obtain ⟨Z, ρ, R, w0⟩ := hq
  exact w0 [] H ⟨rfl, rfl, fun k f d v e => by cases e⟩ R Kp.refl
theorem es_cons {a : IE} {es : IEs} (ha : JE Γ ER S W X G a) (hs : JEs Γ ER S W X G es) : JEs Γ ER S W X G (.cons a es) := by
  intro xs h
  have h' : (kCons (chkE S G a) (chkEs S G es) xs && aft G (infE S.sg G a) (infEs S.sg G es)) = true := h
  rw [Bool.and_eq_true] at h'
  obtain ⟨m1, m2, m3⟩ := aft_of h'.2
  cases xs with
  | nil => cases (show false = true from h'.1)
  | cons y ys =>
    have h1 : (chkE S G a y && plainX y && chkEs S G es ys) = true := h'.1
    rw [Bool.and_eq_true, Bool.and_eq_true] at h1
    refine (pa_cons (ha y h1.1.1) (hs ys h1.2) (star_plain h1.1.2)).imp fun σ H Q hq => ?_
    obtain ⟨Z, ρ, R, w0⟩ := hq
    have w0' : Wp (ExW X.K ER W Z G σ) (fun p => ∀ vs H', ArgsAt X.K Z G σ H' (esF S.sg G (.cons a es)) p.1 vs → Rep X.K Z G p.2 σ H' → Kp (infEs S.sg G (.cons a es)).md σ H H' → Q vs H')
      ((evE Γ a ρ).bnd fun p => (evEs Γ es p.2).bnd fun q => .ok (p.1 :: q.1, q.2)) := w0
    refine ⟨Z, ρ, R, (wp_bnd w0').mono fun p w1 v H1 rv _ _ vr R1 k1 => ?_⟩
    refine ⟨Z, p.2, R1, (wp_bnd w1).mono fun q w2 vs H2 A R2 k2 => ?_⟩
    refine w2 (v :: vs) H2 ⟨?_, ?_, fun k f d u e1 e2 e3 => ?_⟩ R2 (k1.left.trans k2.right)
    · show q.1.length + 1 = (esF S.sg G es).length + 1
      rw [A.ld]
    · show vs.length + 1 = (esF S.sg G es).length + 1
      rw [A.lv]
    · cases k with
      | zero =>
        cases e1; cases e2; cases e3
        exact ⟨rv.keep (k2.av m2 (dis_l m3)) (k2.av m2 (dis_r m3)), vr⟩
      | succ k => exact A.at_ k f d u e1 e2 e3
/-- arguments of a def, from the place n on: at the places br only the address counts -/
structure ArgsR (K : PySem.W.Frag) (Z : Zone) (G : List Nat) (σ : L2.St) (H : Hp) (br : List Nat) (n : Nat) (fs : List Inf) (ds : List PyData) (vs : List V) : Prop where
  ld : ds.length = fs.length
  lv : vs.length = fs.length
  at_ : ∀ (k : Nat) (f : Inf) (d : PyData) (v : V), fs[k]? = some f → ds[k]? = some d → vs[k]? = some v → (n + k ∉ br → RepT K (Av Z G f.al σ) (Av Z G f.el σ) H d v) ∧ ∀ i, f.vr = some i → σ[i]? = some (some v)
def tRs (K : PySem.W.Frag) (ER : ERel) (W : WX) (G : List Nat) (br : List Nat) (n : Nat) (fs : List Inf) (md : List Nat) (m : Env → Res (List PyData × Env)) : TA := fun σ H Q =>
  ∃ Z ρ, Rep K Z G ρ σ H ∧ Wp (ExW K ER W Z G σ) (fun p => ∀ vs H', ArgsR K Z G σ H' br n fs p.1 vs → Rep K Z G p.2 σ H' → Kp md σ H H' → Q vs H') (m ρ)
abbrev JRs (Γ : List Callee) (ER : ERel) (S : SC) (W : WX) (X : Cx) (G : List Nat) (br : List Nat) (n : Nat) (es : IEs) : Prop := ∀ xs, chkRs S G br n es xs = true → PA X xs (tRs X.K ER W G br n (esF S.sg G es) (infEs S.sg G es).md (evEs Γ es))
theorem rs_plain : ∀ {es : IEs} {br : List Nat} {n : Nat} {xs : List Expr}, chkRs S G br n es xs = true → xs.all plainX = true ∧ xs.length = iesLen es
  | .nil, _, _, xs, h => by
    have h' : xs.isEmpty = true := h
    obtain rfl := List.isEmpty_iff.mp h'
    exact ⟨rfl, rfl⟩
  | .cons a es, br, n, xs, h => by
    have h' : (kCons (chkE S G a) (chkRs S G br (n + 1) es) xs && (if n ∈ br then subL (infE S.sg G a).md G && subL (infEs S.sg G es).md G else aft G (infE S.sg G a) (infEs S.sg G es))) = true := h
    rw [Bool.and_eq_true] at h'
    cases xs with
    | nil => cases (show false = true from h'.1)
    | cons y ys =>
      have h1 : (chkE S G a y && plainX y && chkRs S G br (n + 1) es ys) = true := h'.1
      rw [Bool.and_eq_true, Bool.and_eq_true] at h1
      obtain ⟨p, l⟩ := rs_plain h1.2
      exact ⟨by rw [List.all_cons, h1.1.2, p]; rfl, by rw [List.length_cons, l]; rfl⟩
theorem rs_nil {br : List Nat} {n : Nat} : JRs Γ ER S W X G br n .nil := by
  intro xs h
  have h' : xs.isEmpty = true := h
  obtain rfl := List.isEmpty_iff.mp h'
  refine pa_nil.imp fun σ H Q hq => ?_
  obtain ⟨Z, ρ, R, w0⟩ := hq
  exact w0 [] H ⟨rfl, rfl, fun k f d v e => by cases e⟩ R Kp.refl
theorem rs_cons {br : List Nat} {n : Nat} {a : IE} {es : IEs} (ha : JE Γ ER S W X G a) (hs : JRs Γ ER S W X G br (n + 1) es) : JRs Γ ER S W X G br n (.cons a es) := by
  intro xs h
  have h' : (kCons (chkE S G a) (chkRs S G br (n + 1) es) xs && (if n ∈ br then subL (infE S.sg G a).md G && subL (infEs S.sg G es).md G else aft G (infE S.sg G a) (infEs S.sg G es))) = true := h
  rw [Bool.and_eq_true] at h'
  cases xs with
  | nil => cases (show false = true from h'.1)
  | cons y ys =>
    have h1 : (chkE S G a y && plainX y && chkRs S G br (n + 1) es ys) = true := h'.1
    rw [Bool.and_eq_true, Bool.and_eq_true] at h1
    refine (pa_cons (ha y h1.1.1) (hs ys h1.2) (star_plain h1.1.2)).imp fun σ H Q hq => ?_
    obtain ⟨Z, ρ, R, w0⟩ := hq
    have w0' : Wp (ExW X.K ER W Z G σ) (fun p => ∀ vs H', ArgsR X.K Z G σ H' br n (esF S.sg G (.cons a es)) p.1 vs → Rep X.K Z G p.2 σ H' → Kp (infEs S.sg G (.cons a es)).md σ H H' → Q vs H')
      ((evE Γ a ρ).bnd fun p => (evEs Γ es p.2).bnd fun q => .ok (p.1 :: q.1, q.2)) := w0
    refine ⟨Z, ρ, R, (wp_bnd w0').mono fun p w1 v H1 rv _ _ vr R1 k1 => ?_⟩
    refine ⟨Z, p.2, R1, (wp_bnd w1).mono fun q w2 vs H2 A R2 k2 => ?_⟩
    refine w2 (v :: vs) H2 ⟨?_, ?_, fun k f d u e1 e2 e3 => ?_⟩ R2 (k1.left.trans k2.right)
    · show q.1.length + 1 = (esF S.sg G es).length + 1
      rw [A.ld]
    · show vs.length + 1 = (esF S.sg G es).length + 1
      rw [A.lv]
    · cases k with
      | zero =>
        cases e1; cases e2; cases e3
        refine ⟨fun hn => ?_, vr⟩
        have hc := h'.2
        rw [if_neg (show ¬ n ∈ br from hn)] at hc
        obtain ⟨m1, m2, m3⟩ := aft_of hc
        exact rv.keep (k2.av m2 (dis_l m3)) (k2.av m2 (dis_r m3))
      | succ k =>
        obtain ⟨z1, z2⟩ := A.at_ k f d u e1 e2 e3
        exact ⟨fun hn => z1 (by rw [Nat.add_assoc, Nat.add_comm 1 k]; exact hn), z2⟩
/-- all that the arguments may be -/
theorem esF_al : ∀ {es : IEs} {k : Nat} {f : Inf}, (esF S.sg G es)[k]? = some f → (∀ i ∈ f.al, i ∈ (infEs S.sg G es).al) ∧ (∀ i ∈ f.el, i ∈ (infEs S.sg G es).al) ∧ ∀ i ∈ f.el, i ∈ (infEs S.sg G es).el
  | .nil, k, f, e => by cases e
  | .cons a es, 0, f, e => by
    cases e
    exact ⟨fun i hi => List.mem_append_left _ (List.mem_append_left _ hi), fun i hi => List.mem_append_left _ (List.mem_append_right _ hi), fun i hi => List.mem_append_left _ hi⟩
  | .cons a es, k + 1, f, e => by
    obtain ⟨h1, h2, h3⟩ := esF_al (es := es) (k := k) e
    exact ⟨fun i hi => List.mem_append_right _ (h1 i hi), fun i hi => List.mem_append_right _ (h2 i hi), fun i hi => List.mem_append_right _ (h3 i hi)⟩
theorem ArgsAt.repA {Z : Zone} {σ : L2.St} {H : Hp} {es : IEs} {ds : List PyData} {vs : List V} (A : ArgsAt X.K Z G σ H (esF S.sg G es) ds vs) : RepA X.K (Av Z G (infEs S.sg G es).al σ) H ds vs := by
  refine RepA.of_get (by rw [A.ld, A.lv]) fun i d v e1 e2 => ?_
  have hi : i < (esF S.sg G es).length := by
    rw [← A.ld]
    rcases Nat.lt_or_ge i ds.length with h | h
    · exact h
    · rw [List.getElem?_eq_none h] at e1; cases e1
  obtain ⟨h1, h2, h3⟩ := esF_al (List.getElem?_eq_getElem hi)
  exact (A.at_ i _ d v (List.getElem?_eq_getElem hi) e1 e2).1.toD (fun _ => Av.mono h1) fun _ => Av.mono h2
theorem RepTs.of_get {K : PySem.W.Frag} {A B : Addr → Prop} {H : Hp} : ∀ {ds : List PyData} {vs : List V}, ds.length = vs.length → (∀ (i : Nat) d v, ds[i]? = some d → vs[i]? = some v → RepT K A B H d v) → RepTs K A B H ds vs
  | [], [], _, _ => RepTs.nil
  | d :: ds, v :: vs, hl, h => RepTs.cons (h 0 d v (by simp) (by simp)) (RepTs.of_get (by simpa using hl) fun i d v e1 e2 => h (i + 1) d v (by simpa using e1) (by simpa using e2))
  | [], _ :: _, hl, _ => by simp at hl
  | _ :: _, [], hl, _ => by simp at hl
theorem ArgsAt.repTs {Z : Zone} {σ : L2.St} {H : Hp} {es : IEs} {ds : List PyData} {vs : List V} (A : ArgsAt X.K Z G σ H (esF S.sg G es) ds vs) : RepTs X.K (Av Z G (infEs S.sg G es).al σ) (Av Z G (infEs S.sg G es).el σ) H ds vs := by
  refine RepTs.of_get (by rw [A.ld, A.lv]) fun i d v e1 e2 => ?_
  have hi : i < (esF S.sg G es).length := by
    rw [← A.ld]
    rcases Nat.lt_or_ge i ds.length with h | h
    · exact h
    · rw [List.getElem?_eq_none h] at e1; cases e1
  obtain ⟨h1, h2, h3⟩ := esF_al (List.getElem?_eq_getElem hi)
  exact (A.at_ i _ d v (List.getElem?_eq_getElem hi) e1 e2).1.mono (fun _ => Av.mono h1) fun _ => Av.mono h3
theorem es_len : ∀ es : IEs, (esF S.sg G es).length = iesLen es
  | .nil => rfl
  | .cons a es => by
    show (esF S.sg G es).length + 1 = iesLen es + 1
    rw [es_len es]
theorem infEs_sub : ∀ {es : IEs} {xs : List Expr}, chkEs S G es xs = true → subL (infEs S.sg G es).md G = true
  | .nil, _, _ => rfl
  | .cons a es, xs, h => by
    have h' : (kCons (chkE S G a) (chkEs S G es) xs && aft G (infE S.sg G a) (infEs S.sg G es)) = true := h
    rw [Bool.and_eq_true] at h'
    obtain ⟨m1, m2, m3⟩ := aft_of h'.2
    exact subL_app m1 m2
theorem len_small {es : IEs} {xs : List Expr} (h : chkEs S G es xs = true) {ds : List PyData} {vs : List V} {Z : Zone} {σ : L2.St} {H : Hp} (A : ArgsAt X.K Z G σ H (esF S.sg G es) ds vs) : vs.length = iesLen es := by rw [A.lv, es_len]
theorem s_tup {es : IEs} (hs : JEs Γ ER S W X G es) : JE Γ ER S W X G (.tup es) := by
  intro x h
  have h0 : (kTup (chkEs S G es) x && few es) = true := h
  rw [Bool.and_eq_true] at h0
  obtain ⟨h1, hz⟩ := h0
  unfold kTup at h1
  split at h1
  · rename_i xs k pos
    refine (pe_tupP (hs xs h1)).imp fun σ H Q hq => ?_
    obtain ⟨Z, ρ, R, w0⟩ := hq
    have w0' : Wp (ExW X.K ER W Z G σ) (fun p' => PostE X.K Z G (infE S.sg G (.tup es)) σ H p' Q) ((evEs Γ es ρ).bnd fun p => .ok (.tuple p.1, p.2)) := w0
    refine ⟨Z, ρ, R, (wp_bnd w0').mono fun p w1 vs H1 A R1 k1 => ⟨?_, fun t ob ht hob => ?_⟩⟩
    · rw [len_small h1 A]
      have := of_decide_eq_true hz
      have := lim_line
      unfold lim at this
      omega
    · have g := grow_upd (o := .frz ob (.tup vs)) ht
      have na : ¬ Av Z G (infEs S.sg G es).al σ t := R1.new ht
      refine w1 _ _ ?_ nofun nofun nofun (R1.grow g) (k1.trans (Kp.grow g))
      show RepD X.K (Av Z G (infEs S.sg G es).al σ) _ (.tuple p.1) _
      simp only [RepD]
      exact ⟨t, vs, rfl, TTA.of hob upd_same na, RepA.keep (fun a o e _ => g a o e) _ _ A.repA⟩
  · cases h1
theorem s_lst {es : IEs} (hs : JEs Γ ER S W X G es) : JE Γ ER S W X G (.lst es) := by
  intro x h
  have h0 : (kLst (chkEs S G es) x && few es) = true := h
  rw [Bool.and_eq_true] at h0
  obtain ⟨h1, hz⟩ := h0
  unfold kLst at h1
  split at h1
  · rename_i xs pos
    refine (pe_lst (hs xs h1)).imp fun σ H Q hq => ?_
    obtain ⟨Z, ρ, R, w0⟩ := hq
    have w0' : Wp (ExW X.K ER W Z G σ) (fun p' => PostE X.K Z G (infE S.sg G (.lst es)) σ H p' Q) ((evEs Γ es ρ).bnd fun p => .ok (.list p.1, p.2)) := w0
    refine ⟨Z, ρ, R, (wp_bnd w0').mono fun p w1 vs H1 A R1 k1 => ⟨?_, fun t ht => ?_⟩⟩
    · rw [len_small h1 A]
      have := of_decide_eq_true hz
      have := lim_line
      unfold lim at this
      omega
    · have g := grow_upd (o := .lst vs) ht
      have na : ¬ Av Z G (infEs S.sg G es).al σ t := R1.new ht
      have ra : RepA X.K (Av Z G (infEs S.sg G es).al σ) (upd H1 t (.lst vs)) p.1 vs := RepA.keep (fun a o e _ => g a o e) _ _ A.repA
      refine w1 _ _ ⟨t, vs, rfl, LLA.of upd_same na, ra⟩ (fun _ => ⟨⟨t, p.1, vs, rfl, rfl, R1.older k1 (infEs_sub h1) ht, upd_same, RepA.keep (fun a o e _ => g a o e) _ _ (RepA.fresh ht _ _ A.repA)⟩, fun q eq => by cases eq; exact R1.enterG ht g ⟨_, upd_same⟩⟩) (fun _ => ⟨p.1, rfl⟩) nofun (R1.grow g) (k1.trans (Kp.grow g))
  · cases h1
theorem s_edct : JE Γ ER S W X G .edct := by
  intro x h
  have h1 : kDct x = true := h
  unfold kDct at h1
  split at h1
  · refine pe_dnewK.imp fun σ H Q hq => ?_
    obtain ⟨Z, ρ, R, w0⟩ := hq
    intro t ht
    have g := grow_upd (o := .dK []) ht
    refine w0 _ _ ⟨t, [], rfl, ⟨.inl upd_same, R.new ht⟩, RepK.nil⟩ nofun nofun nofun (R.grow g) (Kp.grow g)
  · cases h1
/-! ### and, or as values -/
structure JB (Γ : List Callee) (ER : ERel) (S : SC) (W : WX) (X : Cx) (G : List Nat) (es : IEs) : Prop where
  and_ : ∀ ys pos, chkEs S G es ys = true → iees es = true → PE X (.BoolOp .And ys pos) (tM X.K ER W G { md := (infEs S.sg G es).md } (evAnd Γ es))
  or_ : ∀ ys pos, chkEs S G es ys = true → iees es = true → PE X (.BoolOp .Or ys pos) (tM X.K ER W G { md := (infEs S.sg G es).md } (evOr Γ es))
theorem b_nil : JB Γ ER S W X G .nil := ⟨fun _ _ _ z => (by cases z), fun _ _ _ z => (by cases z)⟩
theorem m_andV {a : IE} {es : IEs} {σ : L2.St} {H : Hp} {Q : VK} (hq : tM X.K ER W G { md := (infE S.sg G a).md ++ (infEs S.sg G es).md } (evAnd Γ (.cons a es)) σ H Q) :
    tAndV (tM X.K ER W G (infE S.sg G a) (evE Γ a)) (tM X.K ER W G { md := (infEs S.sg G es).md } (evAnd Γ es)) σ H Q := by
  obtain ⟨Z, ρ, R, w0⟩ := hq
  have w0' : Wp (ExW X.K ER W Z G σ) (fun p' => PostE X.K Z G { md := (infE S.sg G a).md ++ (infEs S.sg G es).md } σ H p' Q) ((evE Γ a ρ).bnd fun p => (Res.of (asB p.1)).bnd fun k => if k = true then evAnd Γ es p.2 else .ok (.bool false, p.2)) := w0
  refine ⟨Z, ρ, R, (wp_bnd w0').mono fun p w1 v H1 rv _ _ _ R1 k1 => ?_⟩
  obtain ⟨k, ek, w3⟩ := wp_of w1
  rw [asB_of ek] at rv
  refine ⟨k, rv, ?_⟩
  cases k with
  | true =>
    rw [if_pos rfl] at w3 ⊢
    exact ⟨Z, p.2, R1, w3.mono fun p' w v' H' rv' fr ls vr R' k' => w v' H' rv' nofun nofun nofun R' (k1.left.trans k'.right)⟩
  | false =>
    rw [if_neg (by decide)] at w3 ⊢
    exact w3 (.bl false) H1 rfl nofun nofun nofun R1 k1.left
theorem m_orV {a : IE} {es : IEs} {σ : L2.St} {H : Hp} {Q : VK} (hq : tM X.K ER W G { md := (infE S.sg G a).md ++ (infEs S.sg G es).md } (evOr Γ (.cons a es)) σ H Q) :
    tOrV (tM X.K ER W G (infE S.sg G a) (evE Γ a)) (tM X.K ER W G { md := (infEs S.sg G es).md } (evOr Γ es)) σ H Q := by
  obtain ⟨Z, ρ, R, w0⟩ := hq
  have w0' : Wp (ExW X.K ER W Z G σ) (fun p' => PostE X.K Z G { md := (infE S.sg G a).md ++ (infEs S.sg G es).md } σ H p' Q) ((evE Γ a ρ).bnd fun p => (Res.of (asB p.1)).bnd fun k => if k = true then .ok (.bool true, p.2) else evOr Γ es p.2) := w0
  refine ⟨Z, ρ, R, (wp_bnd w0').mono fun p w1 v H1 rv _ _ _ R1 k1 => ?_⟩
  obtain ⟨k, ek, w3⟩ := wp_of w1
  rw [asB_of ek] at rv
  refine ⟨k, rv, ?_⟩
  cases k with
  | false =>
    rw [if_neg (by decide)] at w3 ⊢
    exact ⟨Z, p.2, R1, w3.mono fun p' w v' H' rv' fr ls vr R' k' => w v' H' rv' nofun nofun nofun R' (k1.left.trans k'.right)⟩
  | true =>
    rw [if_pos rfl] at w3 ⊢
    exact w3 (.bl true) H1 rfl nofun nofun nofun R1 k1.left
theorem m_lastAnd {a : IE} {σ : L2.St} {H : Hp} {Q : VK} (hq : tM X.K ER W G { md := (infE S.sg G a).md ++ (infEs S.sg G .nil).md } (evAnd Γ (.cons a .nil)) σ H Q) : tM X.K ER W G (infE S.sg G a) (evE Γ a) σ H Q := by
  obtain ⟨Z, ρ, R, w0⟩ := hq
  have w0' : Wp (ExW X.K ER W Z G σ) (fun p' => PostE X.K Z G { md := (infE S.sg G a).md ++ (infEs S.sg G .nil).md } σ H p' Q) ((evE Γ a ρ).bnd fun p => (Res.of (asB p.1)).bnd fun k => if k = true then .ok (.bool true, p.2) else .ok (.bool false, p.2)) := w0
  refine ⟨Z, ρ, R, (wp_bnd w0').mono fun p w1 v H1 rv _ _ _ R1 k1 => ?_⟩
  obtain ⟨k, ek, w3⟩ := wp_of w1
  rw [asB_of ek] at rv
  obtain rfl : v = .bl k := rv
  cases k with
  | true => exact w3 (.bl true) H1 rfl nofun nofun nofun R1 k1.left
  | false => exact w3 (.bl false) H1 rfl nofun nofun nofun R1 k1.left
theorem m_lastOr {a : IE} {σ : L2.St} {H : Hp} {Q : VK} (hq : tM X.K ER W G { md := (infE S.sg G a).md ++ (infEs S.sg G .nil).md } (evOr Γ (.cons a .nil)) σ H Q) : tM X.K ER W G (infE S.sg G a) (evE Γ a) σ H Q := by
  obtain ⟨Z, ρ, R, w0⟩ := hq
  have w0' : Wp (ExW X.K ER W Z G σ) (fun p' => PostE X.K Z G { md := (infE S.sg G a).md ++ (infEs S.sg G .nil).md } σ H p' Q) ((evE Γ a ρ).bnd fun p => (Res.of (asB p.1)).bnd fun k => if k = true then .ok (.bool true, p.2) else .ok (.bool false, p.2)) := w0
  refine ⟨Z, ρ, R, (wp_bnd w0').mono fun p w1 v H1 rv _ _ _ R1 k1 => ?_⟩
  obtain ⟨k, ek, w3⟩ := wp_of w1
  rw [asB_of ek] at rv
  obtain rfl : v = .bl k := rv
  cases k with
  | true => exact w3 (.bl true) H1 rfl nofun nofun nofun R1 k1.left
  | false => exact w3 (.bl false) H1 rfl nofun nofun nofun R1 k1.left
theorem b_cons {a : IE} {es : IEs} (ha : JE Γ ER S W X G a) (hs : JB Γ ER S W X G es) : JB Γ ER S W X G (.cons a es) := by
  have un : ∀ {ys : List Expr}, chkEs S G (.cons a es) ys = true → ∃ z zs, ys = z :: zs ∧ chkE S G a z = true ∧ chkEs S G es zs = true := fun {ys} h => by
    have h' : (kCons (chkE S G a) (chkEs S G es) ys && aft G (infE S.sg G a) (infEs S.sg G es)) = true := h
    rw [Bool.and_eq_true] at h'
    cases ys with
    | nil => cases (show false = true from h'.1)
    | cons z zs =>
      have h1 : (chkE S G a z && plainX z && chkEs S G es zs) = true := h'.1
      rw [Bool.and_eq_true, Bool.and_eq_true] at h1
      exact ⟨z, zs, rfl, h1.1.1, h1.2⟩
  refine ⟨fun ys pos h _ => ?_, fun ys pos h _ => ?_⟩
  · obtain ⟨z, zs, rfl, h1, h2⟩ := un h
    cases es with
    | nil =>
      have h2' : zs.isEmpty = true := h2
      obtain rfl := List.isEmpty_iff.mp h2'
      exact (pe_one (ha z h1)).imp fun σ H Q q => m_lastAnd q
    | cons c' cs' =>
      cases zs with
      | nil =>
        have h3 : (kCons (chkE S G c') (chkEs S G cs') [] && aft G (infE S.sg G c') (infEs S.sg G cs')) = true := h2
        cases h3
      | cons z' zs' => exact (pe_and (ha z h1) (hs.and_ _ pos h2 rfl)).imp fun σ H Q q => m_andV q
  · obtain ⟨z, zs, rfl, h1, h2⟩ := un h
    cases es with
    | nil =>
      have h2' : zs.isEmpty = true := h2
      obtain rfl := List.isEmpty_iff.mp h2'
      exact (pe_one (ha z h1)).imp fun σ H Q q => m_lastOr q
    | cons c' cs' =>
      cases zs with
      | nil =>
        have h3 : (kCons (chkE S G c') (chkEs S G cs') [] && aft G (infE S.sg G c') (infEs S.sg G cs')) = true := h2
        cases h3
      | cons z' zs' => exact (pe_or (ha z h1) (hs.or_ _ pos h2 rfl)).imp fun σ H Q q => m_orV q
theorem s_and {a : IE} {es : IEs} (ha : JE Γ ER S W X G a) (hs : JB Γ ER S W X G es) (hes : ∀ ys, chkEs S G es ys = true → iees es = true → ∃ z zs, ys = z :: zs) : JE Γ ER S W X G (.and a es) := by
  intro x h
  have h' : (kAnd (chkE S G a) (chkEs S G es) x && subL (infE S.sg G a).md G && subL (infEs S.sg G es).md G && iees es) = true := h
  rw [Bool.and_eq_true, Bool.and_eq_true, Bool.and_eq_true] at h'
  obtain ⟨⟨⟨h1, _⟩, _⟩, h2⟩ := h'
  unfold kAnd at h1
  split at h1
  · rename_i y ys pos
    rw [Bool.and_eq_true] at h1
    obtain ⟨z, zs, rfl⟩ := hes ys h1.2 h2
    exact (pe_and (ha y h1.1) (hs.and_ _ pos h1.2 h2)).imp fun σ H Q q => m_andV (by exact q)
  · cases h1
theorem s_or {a : IE} {es : IEs} (ha : JE Γ ER S W X G a) (hs : JB Γ ER S W X G es) (hes : ∀ ys, chkEs S G es ys = true → iees es = true → ∃ z zs, ys = z :: zs) : JE Γ ER S W X G (.or a es) := by
  intro x h
  have h' : (kOr (chkE S G a) (chkEs S G es) x && subL (infE S.sg G a).md G && subL (infEs S.sg G es).md G && iees es) = true := h
  rw [Bool.and_eq_true, Bool.and_eq_true, Bool.and_eq_true] at h'
  obtain ⟨⟨⟨h1, _⟩, _⟩, h2⟩ := h'
  unfold kOr at h1
  split at h1
  · rename_i y ys pos
    rw [Bool.and_eq_true] at h1
    obtain ⟨z, zs, rfl⟩ := hes ys h1.2 h2
    exact (pe_or (ha y h1.1) (hs.or_ _ pos h1.2 h2)).imp fun σ H Q q => m_orV (by exact q)
  · cases h1
theorem es_some : ∀ {es : IEs} {ys : List Expr}, chkEs S G es ys = true → iees es = true → ∃ z zs, ys = z :: zs
  | .nil, _, _, h => by cases h
  | .cons a es, [], h, _ => by
    have h' : (kCons (chkE S G a) (chkEs S G es) [] && aft G (infE S.sg G a) (infEs S.sg G es)) = true := h
    cases h'
  | .cons a es, y :: ys, _, _ => ⟨y, ys, rfl⟩
end
end Hx

set_option Elab.async false
set_option linter.all false
set_option maxRecDepth 100000
set_option maxHeartbeats 4000000
/-! H13: built-in functions, isinstance, subscripts, slices, tuple(range(..)), xs.pop(). -/
namespace L2
open PySem PySem.Spec PyProof.Rows
section
variable {X : Cx} {r : List V → Hp → VK → Prop} {x : Str} {p pos : Pos} {e : Expr} {es : List Expr} {t : TA} {v : Value}
theorem pe_callX (hv' : (∃ id, v = .builtin id) ∨ ∃ T, v = .type T) (hc : CallR X v r) (hg : Gl X x) (hm : X.mg x = none) (hv : bootBuiltins x = some v) (ha : PA X (e :: es) t) (hn : x ≠ "__name__") (hdb : (x == ("__debug__" : Str)) = false)
    (he : starEach (e :: es) X.env = (false, eval e X.env) :: starEach es X.env) (hpl : (backTo pos (starEach es X.env)).any (·.1) = false) : PE X (.Call (.Name x p) (e :: es) [] pos) (tCB r t) := by
  rcases hv' with ⟨id, rfl⟩ | ⟨T, rfl⟩
  · exact pe_callB hc hg hm hv ha hn hdb he hpl
  · exact pe_callTy hc hg hm hv ha hn hdb he hpl
/-- range(..) from its arguments -/
theorem prg1 {a : Expr} {ta : TA} (hg : Gl X "range") (hm : X.mg "range" = none) (ha : PA X [a] ta) (na : starEach [a] X.env = (false, eval a X.env) :: starEach [] X.env) :
    PRg X (.Call (.Name "range" p) [a] [] pos) (fun σ H Q => ta σ H fun vs H1 => ∃ n, vs = [.int n] ∧ Q 0 n H1) := by
  intro pins s σ H Q I h
  refine Call_ (ld_blt I hg hm boot_range (PyProof.Rows.callWith_type1 (thn (ha.run pos pins s σ H _ I h) fun us s1 ⟨vs, H1, I1, r1, q1⟩ => ?_) na rfl))
  obtain ⟨n, e, q⟩ := q1
  subst e
  cases r1 with
  | cons r rr =>
    cases rr
    obtain ⟨t, rfl⟩ := r
    exact call_range_1 ⟨_, 0, n, _, _, _, H1, rfl, IsRange.new _ _ _ _ _ _ _, I1.kept fun b u e => Heap.get?_push_of_some _ e, q⟩
theorem prg2 {a b : Expr} {ta : TA} (hg : Gl X "range") (hm : X.mg "range" = none) (ha : PA X [a, b] ta) (na : starEach [a, b] X.env = (false, eval a X.env) :: starEach [b] X.env) (nb : (backTo pos (starEach [b] X.env)).any (·.1) = false) :
    PRg X (.Call (.Name "range" p) [a, b] [] pos) (fun σ H Q => ta σ H fun vs H1 => ∃ i j, vs = [.int i, .int j] ∧ Q i j H1) := by
  intro pins s σ H Q I h
  refine Call_ (ld_blt I hg hm boot_range (PyProof.Rows.callWith_type1 (thn (ha.run pos pins s σ H _ I h) fun us s1 ⟨vs, H1, I1, r1, q1⟩ => ?_) na nb))
  obtain ⟨i, j, e, q⟩ := q1
  subst e
  cases r1 with
  | cons r rr =>
    cases rr with
    | cons r' rr =>
      cases rr
      obtain ⟨t, rfl⟩ := r
      obtain ⟨t', rfl⟩ := r'
      exact call_range_2 ⟨_, i, j, _, _, _, H1, rfl, IsRange.new _ _ _ _ _ _ _, I1.kept fun b u e => Heap.get?_push_of_some _ e, q⟩
end
end L2
namespace Hx
open PySem PySem.Spec PyProof.Rows L2
theorem boot_bi (f : BI) : bootBuiltins (biN f) = some (biV f) := by cases f <;> decide +kernel
theorem boot_ty (t : Ty) : bootBuiltins (tyNm t) = some (.type (tyN t)) := by cases t <;> decide +kernel
theorem biV_or (f : BI) : (∃ id, biV f = .builtin id) ∨ ∃ T, biV f = .type T := by cases f <;> first | exact .inl ⟨_, rfl⟩ | exact .inr ⟨_, rfl⟩
theorem bi_blts (f : BI) : biN f ∈ blts := by cases f <;> decide
theorem ty_blts (t : Ty) : tyNm t ∈ blts := by cases t <;> decide
theorem biL_list {f : BI} {ds : List PyData} {d : PyData} (h : biD f ds = some d) (hl : biL f = true) : ∃ xs, d = .list xs := by
  cases f with
  | list =>
    match ds, h with
    | [.list xs], h => cases h; exact ⟨_, rfl⟩
    | [.tuple xs], h => cases h; exact ⟨_, rfl⟩
  | sorted =>
    match ds, h with
    | [.list xs], h =>
      simp only [biD, Option.map_eq_some_iff] at h
      obtain ⟨ys, _, e⟩ := h
      exact ⟨ys, e.symm⟩
  | _ => cases hl
section
variable {Γ : List Callee} {ER : ERel} {S : SC} {W : WX} {X : Cx} {G : List Nat}
/-- a value handed on is the expression's -/
theorem post_hands {K : PySem.W.Frag} {Z : Zone} {f : Inf} {σ : L2.St} {H H2 : Hp} {d : PyData} {ρ2 : Env} {Q : VK} {md : List Nat} (w : PostE K Z G f σ H (d, ρ2) Q) (R2 : Rep K Z G ρ2 σ H2) (k : Kp md σ H H2) (hmd : subL md f.md = true) (hG : subL md G = true)
    (hal : subL f.el f.al = true) (hv : f.vr = none) (hl : f.ls = true → ∃ xs, d = .list xs) (hf : f.fr = true → f.ls = true) : Hands K (Av Z G f.el σ) H2 d Q := fun w' H' g rd fr => by
  refine w w' H' ((RepT.ofD rd).mono (av_el hal) fun _ z => z) (fun z => ?_) hl (by simp [hv]) (R2.grow g) ((k.trans (Kp.grow g)).mono (subL_of hmd))
  obtain ⟨xs, ex⟩ := hl (hf z)
  obtain ⟨p', xs', vs', e1, e2, e3, e4, r⟩ := fr xs ex
  refine ⟨⟨p', xs', vs', e1, e2, R2.older k hG e3, e4, r⟩, fun q eq => ?_⟩
  rw [e2] at eq
  cases eq
  exact R2.enterG e3 g ⟨_, e4⟩
theorem s_bi (C : CxOk Γ ER S W X) {f : BI} {es : IEs} (hs : JEs Γ ER S W X G es) : JE Γ ER S W X G (.bi f es) := by
  intro x h
  have h' : (kCall S (biN f) (chkEs S G es) x && subL (infEs S.sg G es).md G) = true := h
  rw [Bool.and_eq_true] at h'
  obtain ⟨h1, h2⟩ := h'
  unfold kCall at h1
  split at h1
  · rename_i y p z zs pos
    rw [Bool.and_eq_true, Bool.and_eq_true, Bool.and_eq_true] at h1
    obtain ⟨⟨⟨k1, k2⟩, k3⟩, k4⟩ := h1
    obtain rfl := beq_iff_eq.mp k1
    obtain ⟨n1, n2, n3⟩ := okN_of k2
    have pl := (es_plain k4).1
    rw [List.all_cons, Bool.and_eq_true] at pl
    have un := C.un
    refine (pe_callX (biV_or f) (bi_ok C.calm C.gd (by omega) f) (C.glo k3) (C.blt _ (bi_blts f)) (boot_bi f) (hs _ k4) n3 n1 (star_plain pl.1) (star_any pl.2)).imp fun σ H Q hq => ?_
    obtain ⟨Z, ρ, R, w0⟩ := hq
    have w0' : Wp (ExW X.K ER W Z G σ) (fun p' => PostE X.K Z G (infE S.sg G (.bi f es)) σ H p' Q) ((evEs Γ es ρ).bnd fun p => (Res.of (biD f p.1)).bnd fun d => .ok (d, p.2)) := w0
    refine ⟨Z, ρ, R, (wp_bnd w0').mono fun p w1 vs H1 A R1 k => ?_⟩
    obtain ⟨d, ed, w3⟩ := wp_of w1
    exact ⟨_, _, p.1, d, A.repTs, fun a z => R1.there z, ed, post_hands (f := infE S.sg G (.bi f es)) w3 R1 k (subL_refl _) h2 (subL_refl _) rfl (fun z => biL_list ed z) (fun z => z)⟩
  · cases h1
theorem s_isa (C : CxOk Γ ER S W X) {t : Ty} {a : IE} (ha : JE Γ ER S W X G a) : JE Γ ER S W X G (.isa t a) := by
  intro x h
  have h' : (kIsa S t (chkE S G a) x && subL (infE S.sg G a).md G) = true := h
  rw [Bool.and_eq_true] at h'
  obtain ⟨h1, h2⟩ := h'
  unfold kIsa at h1
  split at h1
  · rename_i y p z w pw pos
    rw [Bool.and_eq_true, Bool.and_eq_true, Bool.and_eq_true, Bool.and_eq_true, Bool.and_eq_true] at h1
    obtain ⟨⟨⟨⟨⟨k1, k2⟩, k3⟩, k4⟩, k5⟩, k6⟩ := h1
    obtain rfl := beq_iff_eq.mp k1
    obtain rfl := beq_iff_eq.mp k4
    have hty : PE X (.Name (tyNm t) pw) (tC (.ty (tyN t))) := pe_bltn (C.glo k3) (C.blt _ (ty_blts t)) (boot_ty t) rfl (by cases t <;> decide) (by cases t <;> decide)
    have hpa : PA X [z, .Name (tyNm t) pw] (tCons (tM X.K ER W G (infE S.sg G a) (evE Γ a)) (tCons (tC (.ty (tyN t))) tNil)) := pa_cons (ha z k5) (pa_cons hty pa_nil) (star_plain k6)
    refine (pe_callB (isa_ok t) (C.glo k2) (C.blt _ (by decide)) (by decide +kernel) hpa (by decide) (by decide) (star_plain k6) rfl).imp fun σ H Q hq => ?_
    obtain ⟨Z, ρ, R, w0⟩ := hq
    have w0' : Wp (ExW X.K ER W Z G σ) (fun p' => PostE X.K Z G (infE S.sg G (.isa t a)) σ H p' Q) ((evE Γ a ρ).bnd fun p => .ok (.bool (isaD t p.1), p.2)) := w0
    refine ⟨Z, ρ, R, (wp_bnd w0').mono fun p w1 v H1 rv _ _ _ R1 k => ?_⟩
    exact ⟨noA, p.1, v, rfl, rv.no, w1 (.bl _) H1 rfl nofun nofun nofun R1 k⟩
  · cases h1
theorem plain_ix {e : Expr} (h : plainX e = true) : PlainIx e := by
  intro o i
  cases e <;> first | rfl | cases h
theorem RepA.atI {K : PySem.W.Frag} {A : Addr → Prop} {H : Hp} {ds : List PyData} {vs : List V} {i : Int} {d : PyData} (r : RepA K A H ds vs) (e : L2.atI ds i = some d) : ∃ v, L2.atI vs i = some v ∧ RepD K A H d v := by
  unfold L2.atI at e ⊢
  rw [← r.length]
  cases q : L2.ixN ds.length i with
  | none => rw [q] at e; cases e
  | some j =>
    rw [q] at e
    obtain ⟨v, e1, r1⟩ := r.get (show ds[j]? = some d from e)
    exact ⟨v, e1, r1⟩
theorem s_idx {a i : IE} (ha : JE Γ ER S W X G a) (hi : JE Γ ER S W X G i) : JE Γ ER S W X G (.idx a i) := by
  intro x h
  have h' : (kIdx (chkE S G a) (chkE S G i) x && aft G (infE S.sg G a) (infE S.sg G i)) = true := h
  rw [Bool.and_eq_true] at h'
  obtain ⟨h1, h2⟩ := h'
  obtain ⟨m1, m2, m3⟩ := aft_of h2
  unfold kIdx at h1
  split at h1
  · rename_i y z pos
    rw [Bool.and_eq_true, Bool.and_eq_true] at h1
    obtain ⟨⟨k1, k2⟩, k3⟩ := h1
    refine (pe_ix (IxR.or ix_list ix_tup) (ha y k1) (hi z k2) (plain_ix k3)).imp fun σ H Q hq => ?_
    obtain ⟨Z, ρ, R, w0⟩ := hq
    have w0' : Wp (ExW X.K ER W Z G σ) (fun p' => PostE X.K Z G (infE S.sg G (.idx a i)) σ H p' Q) ((evE Γ a ρ).bnd fun p => (evE Γ i p.2).bnd fun q => (Res.of (idxD p.1 q.1)).bnd fun d => .ok (d, q.2)) := w0
    refine ⟨Z, ρ, R, (wp_bnd w0').mono fun p w1 v H1 rv _ _ _ R1 k1 => ?_⟩
    refine ⟨Z, p.2, R1, (wp_bnd w1).mono fun q w2 u H2 ru _ _ _ R2 k2 => ?_⟩
    obtain ⟨d, ed, w3⟩ := wp_of w2
    have rv' := rv.keep (k2.av m2 (dis_l m3)) (k2.av m2 (dis_r m3))
    have fin : ∀ w', RepD X.K (Av Z G (infE S.sg G a).el σ) H2 d w' → Q w' H2 := fun w' r => w3 w' H2 (RepT.ofD r) nofun nofun nofun R2 (k1.left.trans k2.right)
    match hp : p.1, hq : q.1 with
    | .list xs, .int j =>
      rw [hp, hq] at ed
      rw [hp] at rv'
      rw [hq] at ru
      obtain ⟨t, ws, rfl, s1, ra⟩ := rv'
      obtain rfl : u = .int j := ru
      obtain ⟨w', e1, r1⟩ := RepA.atI ra ed
      exact .inl ⟨t, ws, j, w', rfl, rfl, s1.sq, e1, fin w' r1⟩
    | .tuple xs, .int j =>
      rw [hp, hq] at ed
      rw [hp] at rv'
      rw [hq] at ru
      simp only [RepT, RepD] at rv'
      obtain ⟨t, ws, rfl, s1, ra⟩ := rv'
      obtain rfl : u = .int j := ru
      obtain ⟨w', e1, r1⟩ := RepA.atI ra ed
      exact .inr ⟨t, ws, j, w', rfl, rfl, s1.sq, e1, fin w' r1⟩
    | .none, _ => rw [hp] at ed; cases ed
    | .bool _, _ => rw [hp] at ed; cases ed
    | .int _, _ => rw [hp] at ed; cases ed
    | .str _, _ => rw [hp] at ed; cases ed
    | .dict _, _ => rw [hp] at ed; cases ed
    | .list _, .none => rw [hp, hq] at ed; cases ed
    | .list _, .bool _ => rw [hp, hq] at ed; cases ed
    | .list _, .str _ => rw [hp, hq] at ed; cases ed
    | .list _, .list _ => rw [hp, hq] at ed; cases ed
    | .list _, .tuple _ => rw [hp, hq] at ed; cases ed
    | .list _, .dict _ => rw [hp, hq] at ed; cases ed
    | .tuple _, .none => rw [hp, hq] at ed; cases ed
    | .tuple _, .bool _ => rw [hp, hq] at ed; cases ed
    | .tuple _, .str _ => rw [hp, hq] at ed; cases ed
    | .tuple _, .list _ => rw [hp, hq] at ed; cases ed
    | .tuple _, .tuple _ => rw [hp, hq] at ed; cases ed
    | .tuple _, .dict _ => rw [hp, hq] at ed; cases ed
  · cases h1
/-! ### slices -/
theorem PO.imp {e : Option Expr} {t t' : TO} (h : PO X e t') (k : ∀ σ H Q, t σ H Q → t' σ H Q) : PO X e t := ⟨fun pins s σ H Q I q => h.run pins s σ H Q I (k σ H Q q)⟩
def tMo (K : PySem.W.Frag) (ER : ERel) (W : WX) (G md : List Nat) (m : Env → Res (Option Int × Env)) : TO := fun σ H Q => ∃ Z ρ, Rep K Z G ρ σ H ∧ Wp (ExW K ER W Z G σ) (fun p => ∀ H', Rep K Z G p.2 σ H' → Kp md σ H H' → Q p.1 H') (m ρ)
abbrev JO (Γ : List Callee) (ER : ERel) (S : SC) (W : WX) (X : Cx) (G : List Nat) (o : IO) : Prop := ∀ x, chkO S G o x = true → PO X x (tMo X.K ER W G (mdO S.sg G o) (evO Γ o))
theorem o_non : JO Γ ER S W X G .non := by
  intro x h
  have h' : x.isNone = true := h
  cases x with
  | some y => cases h'
  | none =>
    refine PO.imp po_none fun σ H Q hq => ?_
    obtain ⟨Z, ρ, R, w0⟩ := hq
    exact w0 H R Kp.refl
theorem o_som {e : IE} (he : JE Γ ER S W X G e) : JO Γ ER S W X G (.som e) := by
  intro x h
  cases x with
  | none => cases (show false = true from h)
  | some y =>
    refine PO.imp (po_some (he y h)) fun σ H Q hq => ?_
    obtain ⟨Z, ρ, R, w0⟩ := hq
    have w0' : Wp (ExW X.K ER W Z G σ) (fun p => ∀ H', Rep X.K Z G p.2 σ H' → Kp (mdO S.sg G (.som e)) σ H H' → Q p.1 H') ((evE Γ e ρ).bnd fun p => (Res.of (intD p.1)).bnd fun i => .ok (some i, p.2)) := w0
    refine ⟨Z, ρ, R, (wp_bnd w0').mono fun p w1 v H1 rv _ _ _ R1 k => ?_⟩
    obtain ⟨i, ei, w3⟩ := wp_of w1
    cases hp : p.1 with
    | int j =>
      rw [hp] at ei rv
      cases ei
      exact ⟨_, rv, w3 H1 R1 k⟩
    | _ => rw [hp] at ei; cases ei
theorem RepA.cut {K : PySem.W.Frag} {A : Addr → Prop} {H : Hp} {ds : List PyData} {vs : List V} (r : RepA K A H ds vs) (lo hi : Option Int) : RepA K A H (cutL ds lo hi) (cutV vs lo hi) := by
  unfold cutL cutV
  rw [r.length]
  exact (r.drop _).take _
theorem s_sl {a : IE} {lo hi : IO} (ha : JE Γ ER S W X G a) (hl : JO Γ ER S W X G lo) (hh : JO Γ ER S W X G hi) : JE Γ ER S W X G (.sl a lo hi) := by
  intro x h
  have h' : (kSl (chkE S G a) (chkO S G lo) (chkO S G hi) x && subL (infE S.sg G a).md G && (mdO S.sg G lo).isEmpty && (mdO S.sg G hi).isEmpty) = true := h
  rw [Bool.and_eq_true, Bool.and_eq_true, Bool.and_eq_true] at h'
  obtain ⟨⟨⟨h1, h2⟩, h3⟩, h4⟩ := h'
  have e3 := List.isEmpty_iff.mp h3
  have e4 := List.isEmpty_iff.mp h4
  unfold kSl at h1
  split at h1
  · rename_i y pl ph ps pos
    rw [Bool.and_eq_true, Bool.and_eq_true] at h1
    obtain ⟨⟨k1, k2⟩, k3⟩ := h1
    refine (pe_slice (SlR.or sl_list sl_tupP) (ha y k1) (hl pl k2) (hh ph k3)).imp fun σ H Q hq => ?_
    obtain ⟨Z, ρ, R, w0⟩ := hq
    have w0' : Wp (ExW X.K ER W Z G σ) (fun p' => PostE X.K Z G (infE S.sg G (.sl a lo hi)) σ H p' Q) ((evE Γ a ρ).bnd fun p => (evO Γ lo p.2).bnd fun l => (evO Γ hi l.2).bnd fun h => (Res.of (sliceD p.1 l.1 h.1)).bnd fun d => .ok (d, h.2)) := w0
    refine ⟨Z, ρ, R, (wp_bnd w0').mono fun p w1 v H1 rv _ lv _ R1 k1 => ?_⟩
    refine ⟨Z, p.2, R1, (wp_bnd w1).mono fun l w2 H2 R2 k2 => ?_⟩
    refine ⟨Z, l.2, R2, (wp_bnd w2).mono fun u w3 H3 R3 k3 => ?_⟩
    obtain ⟨d, ed, w4⟩ := wp_of w3
    rw [e3] at k2
    rw [e4] at k3
    have kk : ∀ b o, H1 b = some o → H3 b = some o := fun b o e => k3 b o (k2 b o e (by simp)) (by simp)
    have rv' := rv.keep (H' := H3) (fun b o e _ => kk b o e) (fun b o e _ => kk b o e)
    have kt : Kp (infE S.sg G a).md σ H H3 := k1.trans (Kp.grow kk)
    have hmd : subL (infE S.sg G a).md (infE S.sg G (.sl a lo hi)).md = true := by
      show subL (infE S.sg G a).md ((infE S.sg G a).md ++ mdO S.sg G lo ++ mdO S.sg G hi) = true
      rw [List.append_assoc]
      exact subL_l _ _
    have dom : ∀ b, Av Z G (infE S.sg G a).el σ b → ∃ o, H3 b = some o := fun b z => R3.there z
    match hp : p.1 with
    | .list xs =>
      rw [hp] at ed rv'
      cases ed
      have q := post_hands (f := infE S.sg G (.sl a lo hi)) w4 R3 kt hmd h2 (subL_refl _) rfl (fun _ => ⟨_, rfl⟩) (fun z => z)
      obtain ⟨t, ws, rfl, s1, ra⟩ := rv'
      exact .inl ⟨t, ws, rfl, s1.sq, fun t' ht => q.lst dom (ra.cut _ _) ht⟩
    | .tuple xs =>
      rw [hp] at ed rv'
      cases ed
      have q := post_hands (f := infE S.sg G (.sl a lo hi)) w4 R3 kt hmd h2 (subL_refl _) rfl (fun z => by
        obtain ⟨ys, e⟩ := lv z
        rw [hp] at e
        cases e) (fun z => z)
      have rv2 := rv'
      simp only [RepT, RepD] at rv2
      obtain ⟨t, ws, rfl, s1, ra⟩ := rv2
      refine .inr ⟨t, ws, rfl, s1.sq, fun hw => ?_, fun hw => q.tup dom (ra.cut _ _)⟩
      refine q.same ?_ (by simp)
      have e5 : cutL xs l.1 u.1 = xs := by
        unfold cutL
        rw [ra.length, hw.1, hw.2, List.drop_zero, Nat.sub_zero, ← ra.length, List.take_length]
      rw [e5]
      exact rv'
    | .none => rw [hp] at ed; cases ed
    | .bool _ => rw [hp] at ed; cases ed
    | .int _ => rw [hp] at ed; cases ed
    | .str _ => rw [hp] at ed; cases ed
    | .dict _ => rw [hp] at ed; cases ed
  · cases h1
theorem RepA.rev {K : PySem.W.Frag} {A : Addr → Prop} {H : Hp} {ds : List PyData} {vs : List V} (r : RepA K A H ds vs) : RepA K A H ds.reverse vs.reverse := by
  refine RepA.of_get (by simp [r.length]) fun i d v e1 e2 => ?_
  have hi : i < ds.length := by
    rcases Nat.lt_or_ge i ds.length with h | h
    · exact h
    · rw [List.getElem?_eq_none (by simpa using h)] at e1; cases e1
  rw [List.getElem?_reverse hi] at e1
  rw [List.getElem?_reverse (by rw [← r.length]; exact hi), ← r.length] at e2
  obtain ⟨u, e3, h3⟩ := r.get e1
  rw [e2] at e3; cases e3
  exact h3
theorem s_rev {a : IE} (ha : JE Γ ER S W X G a) : JE Γ ER S W X G (.rev a) := by
  intro x h
  have h' : (kRev (chkE S G a) x && subL (infE S.sg G a).md G) = true := h
  rw [Bool.and_eq_true] at h'
  obtain ⟨h1, h2⟩ := h'
  unfold kRev at h1
  split at h1
  · rename_i y k j p1 p2 p3 pos
    rw [Bool.and_eq_true] at h1
    obtain rfl := of_decide_eq_true h1.1
    refine (pe_revX (ha y h1.2)).imp fun σ H Q hq => ?_
    obtain ⟨Z, ρ, R, w0⟩ := hq
    have w0' : Wp (ExW X.K ER W Z G σ) (fun p' => PostE X.K Z G (infE S.sg G (.rev a)) σ H p' Q) ((evE Γ a ρ).bnd fun p => (Res.of (revD p.1)).bnd fun d => .ok (d, p.2)) := w0
    refine ⟨Z, ρ, R, (wp_bnd w0').mono fun p w1 v H1 rv _ lv _ R1 k1 => ?_⟩
    obtain ⟨d, ed, w4⟩ := wp_of w1
    have dom : ∀ b, Av Z G (infE S.sg G a).el σ b → ∃ o, H1 b = some o := fun b z => R1.there z
    match hp : p.1 with
    | .list xs =>
      rw [hp] at ed rv
      cases ed
      have q := post_hands (f := infE S.sg G (.rev a)) w4 R1 k1 (subL_refl _) h2 (subL_refl _) rfl (fun _ => ⟨_, rfl⟩) (fun z => z)
      obtain ⟨t, ws, rfl, s1, ra⟩ := rv
      exact ⟨t, ws, rfl, .inl ⟨s1.sq, fun t' ht => q.lst dom ra.rev ht⟩⟩
    | .tuple xs =>
      rw [hp] at ed rv
      cases ed
      have q := post_hands (f := infE S.sg G (.rev a)) w4 R1 k1 (subL_refl _) h2 (subL_refl _) rfl (fun z => by
        obtain ⟨ys, e⟩ := lv z
        rw [hp] at e
        cases e) (fun z => z)
      simp only [RepT, RepD] at rv
      obtain ⟨t, ws, rfl, s1, ra⟩ := rv
      exact ⟨t, ws, rfl, .inr ⟨s1.sq, q.tup dom ra.rev⟩⟩
    | .none => rw [hp] at ed; cases ed
    | .bool _ => rw [hp] at ed; cases ed
    | .int _ => rw [hp] at ed; cases ed
    | .str _ => rw [hp] at ed; cases ed
    | .dict _ => rw [hp] at ed; cases ed
  · cases h1
end
end Hx

set_option Elab.async false
set_option linter.all false
set_option maxRecDepth 100000
set_option maxHeartbeats 4000000
/-! H14: tuple(range(..)), xs.pop(..), calls of the module's defs. -/
namespace Hx
open PySem PySem.Spec PyProof.Rows L2
section
variable {K : PySem.W.Frag} {Z : Zone} {G : List Nat} {ρ : Env} {σ : L2.St} {H : Hp}
theorem keepA_upd {A : Addr → Prop} {p : Addr} {o : HO} (h : A p) : KeepA A H (upd H p o) := fun a u e n => by
  rw [upd_ne (fun z => n (by rw [z]; exact h))]
  exact e
/-- an owned list is changed in place -/
theorem Rep.write (R : Rep K Z G ρ σ H) {i : Nat} {p : Addr} {xs : List PyData} {vs : List V} (hi : i ∈ G) (a : At σ i p) (hr : RepA K (Av Z G [] σ) H xs vs) : Rep K Z G (ρ.set i (some (.list xs))) σ (upd H p (.lst vs)) := by
  have hA : Av Z G [] σ p := .inr ⟨i, hi, by simp, a⟩
  have kA := keepA_upd (H := H) (o := .lst vs) hA
  have hlt : i < ρ.length := by
    obtain ⟨_, xs', _, e, _⟩ := R.own i hi
    rcases Nat.lt_or_ge i ρ.length with h | h
    · exact h
    · rw [List.getElem?_eq_none h] at e; cases e
  refine ⟨by rw [List.length_set]; exact R.len, fun j d e n => ?_, fun j g => ?_, R.dis, R.m0, R.fr0, R.byr, fun b o e n => ?_, fun b hb => ?_⟩
  · rw [List.getElem?_set_ne (fun z => n (by rw [← z]; exact hi))] at e
    obtain ⟨v, e1, r⟩ := R.val j d e n
    exact ⟨v, e1, RepD.keep kA _ _ r⟩
  · by_cases hj : i = j
    · subst hj
      exact ⟨p, xs, vs, by rw [List.getElem?_set_self hlt], a, upd_same, RepA.keep kA _ _ hr⟩
    · obtain ⟨q, ys, ws, e1, q1, e2, r⟩ := R.own j g
      have hq : q ≠ p := fun z => hj (R.dis i j p hi g a (z ▸ q1))
      exact ⟨q, ys, ws, by rw [List.getElem?_set_ne hj]; exact e1, q1, by rw [upd_ne hq]; exact e2, RepA.keep kA _ _ r⟩
  · have hb : b ≠ p := fun z => by
      subst z
      rcases R.fr0 i b hi a with q | q
      · rw [q] at e; cases e
      · exact n i q
    rw [upd_ne hb]
    exact R.keep b o e n
  · obtain ⟨o, e⟩ := R.m1 b hb
    by_cases h : b = p
    · exact ⟨_, by rw [h]; exact upd_same⟩
    · exact ⟨o, by rw [upd_ne h]; exact e⟩
theorem kp_write {i : Nat} {p : Addr} {o : HO} {md : List Nat} (hi : i ∈ md) (a : At σ i p) : Kp md σ H (upd H p o) := fun b u e n => by
  rw [upd_ne (fun z => n i hi (by rw [z]; exact a))]
  exact e
end
section
variable {Γ : List Callee} {ER : ERel} {S : SC} {W : WX} {X : Cx} {G : List Nat}
theorem rg0 (n : Int) : rgV 0 n = (List.range n.toNat).map fun (i : Nat) => V.int (i : Int) := by
  unfold rgV
  rw [Int.sub_zero]
  congr 1
  funext i
  rw [Int.zero_add]
theorem repA_range {K : PySem.W.Frag} {A : Addr → Prop} {H : Hp} (f : Nat → Int) : ∀ l : List Nat, RepA K A H (l.map fun i => .int (f i)) (l.map fun i => V.int (f i))
  | [] => RepA.nil
  | x :: l => RepA.cons (by simp only [RepD]) (repA_range f l)
theorem rng_one {ds : List PyData} {xs : List PyData} (h : rngD ds = some xs) (hl : ds.length = 1) : ∃ n, ds = [.int n] ∧ -1000000 ≤ n ∧ n ≤ 1000000 ∧ xs = (List.range n.toNat).map fun (i : Nat) => .int (i : Int) := by
  match ds, hl with
  | [d], _ =>
    cases d with
    | int n =>
      have h' : (if -1000000 ≤ n ∧ n ≤ 1000000 then some ((List.range n.toNat).map fun (i : Nat) => PyData.int (i : Int)) else none) = some xs := h
      split at h'
      · rename_i hn
        exact ⟨n, rfl, hn.1, hn.2, (Option.some.inj h').symm⟩
      · cases h'
    | _ => cases h
theorem rng_two {ds : List PyData} {xs : List PyData} (h : rngD ds = some xs) (hl : ds.length = 2) : ∃ a b, ds = [.int a, .int b] ∧ (-1000000 ≤ a ∧ a ≤ 1000000 ∧ -1000000 ≤ b ∧ b ≤ 1000000) ∧ xs = (List.range (b - a).toNat).map fun (i : Nat) => .int (a + (i : Int)) := by
  match ds, hl with
  | [d, e], _ =>
    cases d with
    | int a =>
      cases e with
      | int b =>
        have h' : (if -1000000 ≤ a ∧ a ≤ 1000000 ∧ -1000000 ≤ b ∧ b ≤ 1000000 then some ((List.range (b - a).toNat).map fun (i : Nat) => PyData.int (a + (i : Int))) else none) = some xs := h
        split at h'
        · rename_i hn
          exact ⟨a, b, rfl, hn, (Option.some.inj h').symm⟩
        · cases h'
      | _ => cases h
    | _ => cases h
theorem RepTs.int1 {K : PySem.W.Frag} {A B : Addr → Prop} {H : Hp} {n : Int} {vs : List V} (h : RepTs K A B H [.int n] vs) : vs = [.int n] := by
  obtain ⟨v, rfl, h1⟩ := h.one
  obtain rfl : v = .int n := h1
  rfl
theorem RepTs.int2 {K : PySem.W.Frag} {A B : Addr → Prop} {H : Hp} {n m : Int} {vs : List V} (h : RepTs K A B H [.int n, .int m] vs) : vs = [.int n, .int m] := by
  obtain ⟨v, u, rfl, h1, h2⟩ := h.two
  obtain rfl : v = .int n := h1
  obtain rfl : u = .int m := h2
  rfl
theorem s_mk (C : CxOk Γ ER S W X) {t : Bool} {es : IEs} (hs : JEs Γ ER S W X G es) : JE Γ ER S W X G (.mk t (.rng es)) := by
  intro x h
  have h' : (kBuilt S (if t = true then "tuple" else "list") (kCons (chkI S G (.rng es) x) List.isEmpty) x && rngB (.rng es)) = true := h
  rw [Bool.and_eq_true] at h'
  obtain ⟨h1, h2⟩ := h'
  unfold kBuilt at h1
  split at h1
  · rename_i y p zs pos
    rw [Bool.and_eq_true, Bool.and_eq_true, Bool.and_eq_true] at h1
    obtain ⟨⟨⟨k1, k2⟩, k3⟩, k4⟩ := h1
    obtain rfl := beq_iff_eq.mp k1
    match zs, k4 with
    | z :: zs, k4 =>
      have k5 : (chkI S G (.rng es) _ z && plainX z && zs.isEmpty) = true := k4
      rw [Bool.and_eq_true, Bool.and_eq_true] at k5
      obtain ⟨⟨k5, k6⟩, k7⟩ := k5
      obtain rfl := List.isEmpty_iff.mp k7
      have k8 : (kBuilt S "range" (chkEs S G es) z && subL (infEs S.sg G es).md G && (decide (iesLen es = 1) || decide (iesLen es = 2) || decide (iesLen es = 3))) = true := k5
      rw [Bool.and_eq_true, Bool.and_eq_true] at k8
      obtain ⟨⟨k8, m1⟩, _⟩ := k8
      unfold kBuilt at k8
      split at k8
      · rename_i y2 p2 us pos2
        rw [Bool.and_eq_true, Bool.and_eq_true, Bool.and_eq_true] at k8
        obtain ⟨⟨⟨j1, j2⟩, j3⟩, j4⟩ := k8
        obtain rfl := beq_iff_eq.mp j1
        obtain ⟨pl, le⟩ := es_plain j4
        have m_end : ∀ (σ : L2.St) (H : Hp) (Q : VK), tM X.K ER W G (infE S.sg G (.mk t (.rng es))) (evE Γ (.mk t (.rng es))) σ H Q →
            tMs X.K ER W G (esF S.sg G es) (infEs S.sg G es).md (evEs Γ es) σ H fun vs H1 => ∃ a b, ((iesLen es = 1 → vs = [.int b] ∧ a = 0) ∧ (iesLen es = 2 → vs = [.int a, .int b])) ∧ RgOk a b ∧ (if t = true then NewT H1 (rgV a b) Q else ∀ q, H1 q = none → Q (.ref q) (upd H1 q (.lst (rgV a b)))) := fun σ H Q hq => by
          obtain ⟨Z, ρ, R, w0⟩ := hq
          have w0' : Wp (ExW X.K ER W Z G σ) (fun p' => PostE X.K Z G (infE S.sg G (.mk t (.rng es))) σ H p' Q) ((((evEs Γ es ρ).bnd fun p => (Res.of (rngD p.1)).bnd fun xs => .ok (xs, p.2)) : Res (List PyData × Env)).bnd fun p => .ok (if t = true then .tuple p.1 else .list p.1, p.2)) := w0
          have w0'' : Wp (ExW X.K ER W Z G σ) (fun p => Wp (ExW X.K ER W Z G σ) (fun p' => PostE X.K Z G (infE S.sg G (.mk t (.rng es))) σ H p' Q) (((Res.of (rngD p.1)).bnd fun xs => .ok (xs, p.2) : Res (List PyData × Env)).bnd fun p => .ok (if t = true then .tuple p.1 else .list p.1, p.2))) (evEs Γ es ρ) := by
            cases hr : evEs Γ es ρ with
            | ok p => rw [hr] at w0'; exact w0'
            | exc c xs ρ' => rw [hr] at w0'; exact w0'
            | stuck => rw [hr] at w0'; exact w0'
          refine ⟨Z, ρ, R, w0''.mono fun p w1 vs H1 A R1 k => ?_⟩
          cases hx : rngD p.1 with
          | none => rw [hx] at w1; exact w1.elim
          | some xs =>
            rw [hx] at w1
            have w2 : PostE X.K Z G (infE S.sg G (.mk t (.rng es))) σ H (if t = true then .tuple xs else .list xs, p.2) Q := w1
            have lds : p.1.length = iesLen es := by rw [A.ld, es_len]
            have key : ∀ a b : Int, RepA X.K (Av Z G [] σ) H1 xs (rgV a b) → (if t = true then NewT H1 (rgV a b) Q else ∀ q, H1 q = none → Q (.ref q) (upd H1 q (.lst (rgV a b)))) := fun a b ra => by
              have dom : ∀ b, Av Z G [] σ b → ∃ o, H1 b = some o := fun b z => R1.there z
              cases t with
              | true =>
                have q' := post_hands (f := infE S.sg G (.mk true (.rng es))) w2 R1 k (subL_refl _) m1 rfl rfl nofun nofun
                exact q'.tup dom ra
              | false =>
                have q' := post_hands (f := infE S.sg G (.mk false (.rng es))) w2 R1 k (subL_refl _) m1 rfl rfl (fun _ => ⟨xs, rfl⟩) (fun z => z)
                exact fun q hq => q'.lst dom ra hq
            have h3 : iesLen es = 1 ∨ iesLen es = 2 := by
              have : (decide (iesLen es = 1) || decide (iesLen es = 2)) = true := h2
              simpa using this
            rcases h3 with h3 | h3
            · obtain ⟨n, e1, b1, b2, e2⟩ := rng_one hx (by rw [lds, h3])
              have tv := A.repTs
              rw [e1] at tv
              refine ⟨0, n, ⟨fun _ => ⟨tv.int1, rfl⟩, fun z => by omega⟩, ⟨by omega, by omega, by omega, by omega, by omega⟩, key 0 n ?_⟩
              rw [rg0, e2]
              exact repA_range (fun i => (i : Int)) _
            · obtain ⟨a, b, e1, ⟨b1, b2, b3, b4⟩, e2⟩ := rng_two hx (by rw [lds, h3])
              have tv := A.repTs
              rw [e1] at tv
              refine ⟨a, b, ⟨fun z => by omega, fun _ => tv.int2⟩, ⟨by omega, by omega, by omega, by omega, by omega⟩, key a b ?_⟩
              rw [e2]
              exact repA_range (fun i => a + (i : Int)) _
        have rg : PRg X (.Call (.Name ("range" : Str) p2) us [] pos2) (fun σ H Q => tMs X.K ER W G (esF S.sg G es) (infEs S.sg G es).md (evEs Γ es) σ H fun vs H1 => ∃ a b, ((iesLen es = 1 → vs = [.int b] ∧ a = 0) ∧ (iesLen es = 2 → vs = [.int a, .int b])) ∧ Q a b H1) := by
          have h3 : iesLen es = 1 ∨ iesLen es = 2 := by
            have : (decide (iesLen es = 1) || decide (iesLen es = 2)) = true := h2
            simpa using this
          rcases h3 with h3 | h3
          · match us, le.trans h3 with
            | [a], _ =>
              rw [List.all_cons, Bool.and_eq_true] at pl
              have ha : PA X [a] (fun σ H Q => tMs X.K ER W G (esF S.sg G es) (infEs S.sg G es).md (evEs Γ es) σ H fun vs H1 => Q vs H1) := hs [a] j4
              intro pins s σ H Q I h
              refine prg1 (C.glo j3) (C.blt _ (by decide)) ha (star_plain pl.1) pins s σ H Q I ?_
              obtain ⟨Z, ρ, R, w⟩ := h
              refine ⟨Z, ρ, R, w.mono fun p w vs H' A R' k => ?_⟩
              obtain ⟨a, b, ⟨e1, _⟩, q⟩ := w vs H' A R' k
              have e2 := e1 h3
              rw [e2.2] at q
              exact ⟨b, e2.1, q⟩
          · match us, le.trans h3 with
            | [a, b], _ =>
              rw [List.all_cons, List.all_cons, Bool.and_eq_true, Bool.and_eq_true] at pl
              have ha : PA X [a, b] (fun σ H Q => tMs X.K ER W G (esF S.sg G es) (infEs S.sg G es).md (evEs Γ es) σ H fun vs H1 => Q vs H1) := hs [a, b] j4
              intro pins s σ H Q I h
              refine prg2 (C.glo j3) (C.blt _ (by decide)) ha (star_plain pl.1) (star_any (by rw [List.all_cons, pl.2.1]; rfl)) pins s σ H Q I ?_
              obtain ⟨Z, ρ, R, w⟩ := h
              refine ⟨Z, ρ, R, w.mono fun p w vs H' A R' k => ?_⟩
              obtain ⟨a, b, ⟨_, e1⟩, q⟩ := w vs H' A R' k
              exact ⟨a, b, e1 h3, q⟩
        cases t with
        | true =>
          refine (pe_tupRgP C.calm (C.glo k3) (C.blt _ (by decide)) rg rfl).imp fun σ H Q q => ?_
          obtain ⟨Z, ρ, R, w⟩ := m_end σ H Q q
          exact ⟨Z, ρ, R, w⟩
        | false =>
          refine (pe_listRg C.calm (C.glo k3) (C.blt _ (by decide)) rg rfl).imp fun σ H Q q => ?_
          obtain ⟨Z, ρ, R, w⟩ := m_end σ H Q q
          exact ⟨Z, ρ, R, w⟩
      · cases k8
  · cases h1
/-! ### xs.pop() -/
theorem pop_rep {K : PySem.W.Frag} {A : Addr → Prop} {H : Hp} {xs : List PyData} {ws : List V} (r : RepA K A H xs ws) {j : Nat} {d : PyData} (e : xs[j]? = some d) : ∃ w, ws[j]? = some w ∧ RepD K A H d w ∧ RepA K A H (xs.eraseIdx j) (ws.eraseIdx j) := by
  obtain ⟨w, e1, r1⟩ := r.get e
  refine ⟨w, e1, r1, RepA.of_get ?_ fun i d v e2 e3 => ?_⟩
  · rw [List.length_eraseIdx, List.length_eraseIdx, r.length]
  · rw [List.getElem?_eraseIdx] at e2 e3
    by_cases h : i < j
    · rw [if_pos h] at e2 e3
      obtain ⟨u, e4, r4⟩ := r.get e2
      rw [e3] at e4; cases e4
      exact r4
    · rw [if_neg h] at e2 e3
      obtain ⟨u, e4, r4⟩ := r.get e2
      rw [e3] at e4; cases e4
      exact r4
theorem dropLast_eq {α : Type} (xs : List α) : xs.dropLast = xs.eraseIdx (xs.length - 1) := by
  rw [List.dropLast_eq_take, List.eraseIdx_eq_take_drop_succ]
  cases xs with
  | nil => rfl
  | cons x r =>
    rw [List.drop_of_length_le (by simp), List.append_nil]
theorem s_pop (C : CxOk Γ ER S W X) {i : Nat} {es : IEs} (hs : JEs Γ ER S W X G es) : JE Γ ER S W X G (.pop i es) := by
  intro x h
  have h' : (kPop S i (chkEs S G es) x && decide (iesLen es ≤ 1) && decide (i ∈ G) && subL (infEs S.sg G es).md G && dis (infEs S.sg G es).md [i]) = true := h
  rw [Bool.and_eq_true, Bool.and_eq_true, Bool.and_eq_true, Bool.and_eq_true] at h'
  obtain ⟨⟨⟨⟨h1, h5⟩, h2⟩, h3⟩, h4⟩ := h'
  have hi : i ∈ G := of_decide_eq_true h2
  unfold kPop at h1
  split at h1
  · rename_i y py m ap zs cp
    rw [Bool.and_eq_true, Bool.and_eq_true, Bool.and_eq_true, Bool.and_eq_true] at h1
    obtain ⟨⟨⟨⟨k1, k2⟩, k3⟩, k4⟩, k5⟩ := h1
    obtain rfl := beq_iff_eq.mp k3
    obtain ⟨n1, n2⟩ := nameB_of k1
    have ho : PE X (.Name y py) (tVar i) := pe_var (C.at n1) (C.vis k2) (okN_of n2).1 (okN_of n2).2.1
    have key : ∀ (σ : L2.St) (H : Hp) (Q : VK), tM X.K ER W G (infE S.sg G (.pop i es)) (evE Γ (.pop i es)) σ H Q → ∃ p, At σ i p ∧ (∃ ws0, H p = some (.lst ws0)) ∧ tMs X.K ER W G (esF S.sg G es) (infEs S.sg G es).md (evEs Γ es) σ H fun vs H1 =>
        ∃ ws j w, H1 p = some (.lst ws) ∧ ws[j]? = some w ∧ ((vs = [] ∧ j = ws.length - 1) ∨ ∃ k, vs = [.int k] ∧ L2.ixN ws.length k = some j ∧ ws.length ≤ 1000000) ∧ Q w (upd H1 p (.lst (ws.eraseIdx j))) := fun σ H Q hq => by
      obtain ⟨Z, ρ, R, w0⟩ := hq
      obtain ⟨p, xs0, ws0, e0, a0, eh0, _⟩ := R.own i hi
      refine ⟨p, a0, ⟨ws0, eh0⟩, ?_⟩
      have w0' : Wp (ExW X.K ER W Z G σ) (fun p' => PostE X.K Z G (infE S.sg G (.pop i es)) σ H p' Q) ((evEs Γ es ρ).bnd fun p => (Res.of (popD (p.2[i]?.join) p.1)).bnd fun dl => .ok (dl.1, p.2.set i (some (.list dl.2)))) := w0
      refine ⟨Z, ρ, R, (wp_bnd w0').mono fun q w1 vs H1 A R1 k => ?_⟩
      obtain ⟨dl, ed, w3⟩ := wp_of w1
      obtain ⟨p', xs, ws, e1, a1, eh, ra⟩ := R1.own i hi
      obtain rfl := at_inj a1 a0
      rw [e1] at ed
      have fin : ∀ j d, xs[j]? = some d → dl = (d, xs.eraseIdx j) → ∃ w, ws[j]? = some w ∧ Q w (upd H1 p' (.lst (ws.eraseIdx j))) := fun j d e2 e3 => by
        obtain ⟨w, e4, r4, r5⟩ := pop_rep ra e2
        refine ⟨w, e4, ?_⟩
        subst e3
        have kA := keepA_upd (H := H1) (o := .lst (ws.eraseIdx j)) (show Av Z G [] σ p' from .inr ⟨i, hi, by simp, a1⟩)
        refine w3 w _ (RepT.ofD (RepD.keep kA _ _ r4)) nofun nofun nofun (R1.write hi a1 r5) ((k.mono fun x hx => List.mem_cons_of_mem _ hx).trans (kp_write List.mem_cons_self a1))
      match hd : q.1, ed with
      | [], ed =>
        have tv := A.repTs
        rw [hd] at tv
        simp only [RepTs] at tv
        have ed' : (xs[xs.length - 1]?.map fun d => (d, xs.dropLast)) = some dl := ed
        cases e2 : xs[xs.length - 1]? with
        | none => rw [e2] at ed'; cases ed'
        | some d =>
          rw [e2] at ed'
          obtain ⟨w, e4, q4⟩ := fin _ d e2 (by rw [← dropLast_eq]; exact (Option.some.inj ed').symm)
          exact ⟨ws, xs.length - 1, w, eh, e4, .inl ⟨tv, by rw [ra.length]⟩, q4⟩
      | [.int k], ed =>
        have tv := A.repTs
        rw [hd] at tv
        have ed0 : (if xs.length ≤ lim then (L2.ixN xs.length k).bind fun j => xs[j]?.map fun d => (d, xs.eraseIdx j) else none) = some dl := ed
        have hz : xs.length ≤ 1000000 := by
          rcases Nat.lt_or_ge lim xs.length with z | z
          · rw [if_neg (by omega)] at ed0; cases ed0
          · exact z
        have ed' : ((L2.ixN xs.length k).bind fun j => xs[j]?.map fun d => (d, xs.eraseIdx j)) = some dl := by rw [if_pos (show xs.length ≤ lim from hz)] at ed0; exact ed0
        cases e2 : L2.ixN xs.length k with
        | none => rw [e2] at ed'; cases ed'
        | some j =>
          rw [e2] at ed'
          have ed2 : (xs[j]?.map fun d => (d, xs.eraseIdx j)) = some dl := ed'
          cases e3 : xs[j]? with
          | none => rw [e3] at ed2; cases ed2
          | some d =>
            rw [e3] at ed2
            obtain ⟨w, e4, q4⟩ := fin j d e3 (Option.some.inj ed2).symm
            exact ⟨ws, j, w, eh, e4, .inr ⟨k, tv.int1, by rw [← ra.length]; exact e2, by rw [← ra.length]; exact hz⟩, q4⟩
    cases es with
    | nil =>
      have k5' : zs.isEmpty = true := k5
      obtain rfl := List.isEmpty_iff.mp k5'
      refine (pe_bm0 PySem.F.plainAttrs_list PySem.F.slot_list_pop PySem.F.type_list_pop mt_pop ho rfl k4).imp fun σ H Q q => ?_
      obtain ⟨p, a, ⟨ws0, h0⟩, Z, ρ, R, w⟩ := key σ H Q q
      obtain ⟨ws, j, w, e1, e2, e3, q⟩ := w [] H ⟨rfl, rfl, fun k f d v e => by cases e⟩ R Kp.refl
      refine ⟨_, a, .inl ⟨rfl, ws0, SqL.of h0⟩, p, ws, w, rfl, rfl, e1, ?_, ?_⟩
      · rcases e3 with ⟨_, e3⟩ | ⟨k, e3, _⟩
        · rw [← e3]; exact e2
        · cases e3
      · rcases e3 with ⟨_, e3⟩ | ⟨k, e3, _⟩
        · rw [dropLast_eq, ← e3]; exact q
        · cases e3
    | cons a es' =>
      obtain ⟨pl, le⟩ := es_plain k5
      have h6 : iesLen (.cons a es') ≤ 1 := of_decide_eq_true h5
      have h7 : iesLen (.cons a es') = 1 := by
        have : iesLen (.cons a es') = iesLen es' + 1 := rfl
        omega
      match zs, le.trans h7 with
      | [z], _ =>
        rw [List.all_cons, Bool.and_eq_true] at pl
        refine (pe_bm PySem.F.plainAttrs_list PySem.F.slot_list_pop PySem.F.type_list_pop mt_popAt ho (hs [z] k5) rfl (by rw [star_plain pl.1]; rfl) k4 (star_plain pl.1) rfl).imp fun σ H Q q => ?_
        obtain ⟨p, a', ⟨ws0, h0⟩, Z, ρ, R, w⟩ := key σ H Q q
        refine ⟨_, a', .inl ⟨rfl, ws0, SqL.of h0⟩, Z, ρ, R, w.mono fun q w vs H1 A R1 k => ?_⟩
        obtain ⟨ws, j, y, e1, e2, e3, q⟩ := w vs H1 A R1 k
        rcases e3 with ⟨e3, _⟩ | ⟨k', e3, e4, e5⟩
        · have lv := A.lv
          rw [e3, es_len, h7] at lv
          cases lv
        · obtain ⟨s1, s2, s3, s4⟩ := L2.ixN_seq e4
          exact ⟨p, ws, k', j, y, rfl, e3, e1, by omega, by omega, s1, e2, q⟩
  · cases h1
end
end Hx

set_option Elab.async false
set_option linter.all false
set_option maxRecDepth 100000
set_option maxHeartbeats 4000000
/-! T1: xs.index(y) of a list or tuple of flat items, told by the object that comes. -/
namespace Hx
open PySem PySem.Spec PyProof.Rows L2
section
variable {X : Cx}
/-- the items are flat, y stands first at j -/
structure IdxAt (ys : List V) (y : V) (j : Nat) : Prop where
  fy : flatV y = true
  fys : ys.all flatV = true
  hit : ∃ z, ys[j]? = some z ∧ eqV z y = true
  no : ∀ m z, m < j → ys[m]? = some z → eqV z y = false
theorem mt_tupIndex : MtR X "tuple.index" (fun x xs H Q => ∃ p ys y j, x = .ref p ∧ xs = [y] ∧ SqT X.K H p ys ∧ IdxAt ys y j ∧ Q (.int (j : Nat)) H) := by
  rintro pins s σ H x xs v us Q I rx rs ⟨p, ys, y, j, rfl, rfl, sq, ⟨fy, fys, ⟨z, hz, hzy⟩, hno⟩, q⟩
  cases rx
  obtain ⟨u, rfl, ru⟩ := vals1 rs
  obtain ⟨its, rv, ⟨⟨c, dd, dt, sl⟩, ho, hc, n, hd⟩, _⟩ := I.tuple sq
  cases (show c = _ from hc)
  cases (show dt = _ from hd)
  have len := rv.length
  obtain ⟨t0, ht0, rt0⟩ := rv.get hz
  obtain ⟨hjl, hje⟩ := List.getElem?_eq_some_iff.mp ht0
  have val : ∀ (m : Nat) (hm : m < its.toArray.size) (w : V), ys[m]? = some w → eqU y its.toArray[m] = eqV w y := fun m hm w hw => by
    obtain ⟨t, ht, rt⟩ := rv.get hw
    have e : its.toArray[m] = t := by
      obtain ⟨_, e⟩ := List.getElem?_eq_some_iff.mp ht
      simpa using e
    rw [e, eqU_of rt (flat_at fys hw)]
  have step := TI.tuple_indexAt p its.toArray n dd sl u (eqU y) j (by simpa using hjl) ((val j (by simpa using hjl) z hz).trans hzy) fun m hm hmj => by
    have hml : m < ys.length := by
      have : m < its.length := by simpa using hm
      omega
    exact (val m hm _ (List.getElem?_eq_getElem hml)).trans (hno m _ hmj (List.getElem?_eq_getElem hml))
  exact call_meets PySem.F.slot_tuple_index ⟨_, ho, rfl⟩ PySem.F.entry_tuple_index (PySem.F.args_tuple_index_2 _ _) step ⟨ho, fun w hw => mem_eqAt ru fy rv fys w (by simpa using hw), .int (j : Nat), H, I.tok _, ⟨_, rfl⟩, q⟩
/-- what is known of an object before the arguments are evaluated -/
def Obt (K : PySem.W.Frag) (H : Hp) (a : Addr) (T : String) : Prop := (T = "list" ∧ ∃ xs, SqL K H a xs) ∨ (T = "tuple" ∧ ((∃ xs, PlT H a xs) ∨ ∃ o, K.lookup a = some o ∧ o.cls = .type "tuple" ∧ o.dict = none))
theorem Obt.is {pins : List (Addr × Obj)} {σ : L2.St} {H : Hp} {s : Shared} (I : Inv X pins σ H s) {a : Addr} {T : String} (h : Obt X.K H a T) : s.TypeIs (.ref a) T ∧ ∀ b, Value.ref a = .ref b → ∃ ob, s.heap.get? b = some ob ∧ ob.dict = none := by
  have ofObj : ∀ {o : Obj} {U : String}, s.heap.get? a = some o → o.cls = .type U → o.dict = none → s.TypeIs (.ref a) U ∧ ∀ b, Value.ref a = .ref b → ∃ ob, s.heap.get? b = some ob ∧ ob.dict = none := fun h1 h2 h3 => ⟨⟨_, h1, h2⟩, fun b e => by cases e; exact ⟨_, h1, h3⟩⟩
  rcases h with ⟨rfl, xs, sq⟩ | ⟨rfl, ⟨xs, pt⟩ | ⟨o, ko, c, d⟩⟩
  · obtain ⟨_, _, ⟨o, n, ho, hc, hd, _⟩, _⟩ := I.list sq
    exact ofObj ho hc hd
  · obtain ⟨o, ho, hd⟩ := PlT.obj I pt
    obtain ⟨_, _, ⟨o', ho', hc, _⟩, _⟩ := I.tuple (.inl pt.rd)
    rw [ho] at ho'
    cases ho'
    exact ofObj ho hc hd
  · exact ofObj (I.kIn a o ko) c d
/-- o.index(e) -/
def tIxof (K : PySem.W.Frag) (to te : TE) : TE := fun σ H Q => to σ H fun x H1 => ∃ a T, x = .ref a ∧ Obt K H1 a T ∧ te σ H1 fun y H2 => ∃ ys j, ((T = "list" ∧ SqL K H2 a ys) ∨ (T = "tuple" ∧ SqT K H2 a ys)) ∧ IdxAt ys y j ∧ Q (.int (j : Nat)) H2
theorem pe_ixof {o e : Expr} {to te : TE} {ap cp : Pos} (ho : PE X o to) (he : PE X e te) (hb : attributeBase o "index" X.env (eval o X.env) = eval o X.env) (hl : (ap.endLine == cp.line) = true) (hs : plainX e = true) : PE X (.Call (.Attribute o "index" ap) [e] [] cp) (tIxof X.K to te) := by
  refine ⟨fun pins s σ H Q I h => wpAny_Call_method_late hb (by rw [star_plain hs]; rfl) hl rfl (thn (ho.run pins s σ H _ I h) ?_)⟩
  rintro v s1 ⟨x, H1, I1, r1, a, T, rfl, ob, q1⟩
  cases (show v = .ref a from r1)
  obtain ⟨ty, nd⟩ := ob.is I1
  have arg := (pa_cons he pa_nil (star_plain hs)).run cp pins s1 σ H1 (fun vs H2 => match vs with
    | [y] => ∃ ys j, ((T = "list" ∧ SqL X.K H2 a ys) ∨ (T = "tuple" ∧ SqT X.K H2 a ys)) ∧ IdxAt ys y j ∧ Q (.int (j : Nat)) H2
    | _ => False) I1 q1
  rw [star_plain hs] at arg ⊢
  rcases ob with ⟨rfl, _⟩ | ⟨rfl, _⟩
  · refine ⟨"list", _, PySem.F.plainAttrs_list, PySem.F.slot_list_index, PySem.F.type_list_index, ty, nd, Calls.callWith_builtin rfl (Calls.evalArgs_plain (thn arg fun us s2 ⟨vs, H2, I2, r2, q2⟩ => ?_))⟩
    match vs, r2, q2 with
    | [y], r2, ⟨ys, j, hq, ix, q⟩ =>
      have sq : SqL X.K H2 a ys := by
        rcases hq with ⟨_, z⟩ | ⟨z, _⟩
        · exact z
        · exact absurd z (by decide)
      obtain ⟨z, hz, hzy⟩ := ix.hit
      exact mt_index pins s2 σ H2 _ _ _ us Q I2 r1 r2 ⟨a, ys, y, j, z, rfl, rfl, sq, ix.fy, ix.fys, hz, hzy, ix.no, q⟩
  · refine ⟨"tuple", _, PySem.F.plainAttrs_tuple, PySem.F.slot_tuple_index, PySem.F.type_tuple_index, ty, nd, Calls.callWith_builtin rfl (Calls.evalArgs_plain (thn arg fun us s2 ⟨vs, H2, I2, r2, q2⟩ => ?_))⟩
    match vs, r2, q2 with
    | [y], r2, ⟨ys, j, hq, ix, q⟩ =>
      have sq : SqT X.K H2 a ys := by
        rcases hq with ⟨z, _⟩ | ⟨_, z⟩
        · exact absurd z (by decide)
        · exact z
      exact mt_tupIndex pins s2 σ H2 _ _ _ us Q I2 r1 r2 ⟨a, ys, y, j, rfl, rfl, sq, ix, q⟩
theorem idxOf_no {k : Int} : ∀ {ns : List Int} {m : Nat}, m < ns.idxOf k → ns[m]? ≠ some k
  | [], m, h => by simp
  | n :: ns, m, h => by
    rw [List.idxOf_cons] at h
    cases e : n == k with
    | true => rw [e] at h; exact absurd h (Nat.not_lt_zero _)
    | false =>
      rw [e] at h
      cases m with
      | zero =>
        rw [List.getElem?_cons_zero]
        exact fun z => absurd (Option.some.inj z) (beq_eq_false_iff_ne.mp e)
      | succ m =>
        rw [List.getElem?_cons_succ]
        exact idxOf_no (Nat.lt_of_succ_lt_succ h)
theorem idxAt_ints {ns : List Int} {k : Int} (h : k ∈ ns) : IdxAt (ns.map .int) (.int k) (ns.idxOf k) := by
  have hlt : ns.idxOf k < ns.length := List.idxOf_lt_length_iff.mpr h
  refine ⟨rfl, by rw [List.all_map]; exact List.all_eq_true.mpr fun _ _ => rfl, ⟨.int k, ?_, ?_⟩, fun m z hm hz => ?_⟩
  · rw [List.getElem?_map, List.getElem?_eq_getElem hlt, List.getElem_idxOf hlt]
    rfl
  · show (k == k) = true
    exact beq_self_eq_true k
  · rw [List.getElem?_map] at hz
    obtain ⟨n, hn, rfl⟩ := Option.map_eq_some_iff.mp hz
    show (n == k) = false
    refine beq_eq_false_iff_ne.mpr fun e => ?_
    subst e
    exact idxOf_no hm hn
end
section
variable {Γ : List Callee} {ER : ERel} {S : SC} {W : WX} {X : Cx} {G : List Nat}
theorem base_of {y : Expr} (h : baseX y = true) {nm : Str} {env : PySem.Env} {w : Sem Value} : attributeBase y nm env w = w := by
  cases y <;> first | rfl | cases h
theorem ixof_of {xs : List PyData} {y : PyData} {i : Int} (h : ixofD xs y = some i) : ∃ (k : Int) (ns : List Int), y = .int k ∧ xs = ns.map .int ∧ k ∈ ns ∧ i = (ns.idxOf k : Nat) := by
  cases y with
  | int k =>
    have h' : ((intsOf xs).bind fun ns => if k ∈ ns then some ((ns.idxOf k : Nat) : Int) else none) = some i := h
    obtain ⟨ns, e2, h'⟩ := Option.bind_eq_some_iff.mp h'
    split at h'
    · exact ⟨k, ns, rfl, intsOf_eq e2, by assumption, (Option.some.inj h').symm⟩
    · cases h'
  | _ => simp [ixofD] at h
theorem ints_V {K : PySem.W.Frag} {A : Addr → Prop} {H : Hp} : ∀ {ns : List Int} {vs : List V}, RepA K A H (ns.map .int) vs → vs = ns.map .int
  | [], vs, r => by
    simp only [List.map_nil, RepA] at r
    exact r
  | n :: ns, vs, r => by
    simp only [List.map_cons, RepA, RepD] at r
    obtain ⟨v, vs', rfl, rfl, r⟩ := r
    rw [ints_V r]
    rfl
theorem s_ixof {a b : IE} (ha : JE Γ ER S W X G a) (hb : JE Γ ER S W X G b) : JE Γ ER S W X G (.ixof a b) := by
  intro x h
  have h' : (kIxof (chkE S G a) (chkE S G b) x && aft G (infE S.sg G a) (infE S.sg G b)) = true := h
  rw [Bool.and_eq_true] at h'
  obtain ⟨h1, h2⟩ := h'
  obtain ⟨m1, m2, m3⟩ := aft_of h2
  unfold kIxof at h1
  split at h1
  · rename_i y m ap z cp
    simp only [Bool.and_eq_true] at h1
    obtain ⟨⟨⟨⟨⟨k1, k2⟩, k3⟩, k4⟩, k5⟩, k6⟩ := h1
    obtain rfl := beq_iff_eq.mp k1
    refine (pe_ixof (ha y k5) (hb z k6) (base_of k3) k2 k4).imp fun σ H Q hq => ?_
    obtain ⟨Z, ρ, R, w0⟩ := hq
    have w0' : Wp (ExW X.K ER W Z G σ) (fun p' => PostE X.K Z G (infE S.sg G (.ixof a b)) σ H p' Q) ((evE Γ a ρ).bnd fun p => (Res.of (itemsOf p.1)).bnd fun xs => (evE Γ b p.2).bnd fun q => (Res.of (ixofD xs q.1)).bnd fun i => .ok (.int i, q.2)) := w0
    refine ⟨Z, ρ, R, (wp_bnd w0').mono fun p w1 v H1 rv _ _ _ R1 k1 => ?_⟩
    obtain ⟨xs, ex, w2⟩ := wp_of w1
    have fin : ∀ {q : PyData × Env} {H2 : Hp} {i : Int}, ixofD xs q.1 = some i → Wp (ExW X.K ER W Z G σ) (fun p' => PostE X.K Z G (infE S.sg G (.ixof a b)) σ H p' Q) (.ok (.int i, q.2)) → Rep X.K Z G q.2 σ H2 → Kp (infE S.sg G b).md σ H1 H2 → Q (.int i) H2 := fun _ w3 R2 k2 =>
      w3 (.int _) _ (show RepT X.K _ _ _ (.int _) _ from rfl) nofun nofun nofun R2 (k1.left.trans k2.right)
    match hp : p.1, ex with
    | .list ys, ex =>
      cases ex
      rw [hp] at rv
      obtain ⟨t, ws, rfl, s1, ra⟩ := id rv
      refine ⟨t, "list", rfl, .inl ⟨rfl, ws, s1.sq⟩, Z, p.2, R1, (wp_bnd w2).mono fun q w3 u H2 ru _ _ _ R2 k2 => ?_⟩
      obtain ⟨i, ei, w4⟩ := wp_of w3
      obtain ⟨k, ns, ey, rfl, hk, rfl⟩ := ixof_of ei
      obtain ⟨t', ws', et, s2, rb⟩ := rv.keep (H' := H2) (k2.av m2 (dis_l m3)) (k2.av m2 (dis_r m3))
      cases et
      rw [ey] at ru
      obtain rfl : u = .int k := ru
      rw [ints_V rb] at s2
      exact ⟨ns.map .int, ns.idxOf k, .inl ⟨rfl, s2.sq⟩, idxAt_ints hk, fin ei w4 R2 k2⟩
    | .tuple ys, ex =>
      cases ex
      rw [hp] at rv
      have rv0 := rv
      simp only [RepT, RepD] at rv0
      obtain ⟨t, ws, rfl, s1, ra⟩ := rv0
      refine ⟨t, "tuple", rfl, .inr ⟨rfl, s1.imp (fun z => ⟨ws, z.1⟩) fun ⟨o, its, n, h1, h2, h3, _⟩ => ⟨o, h1, h2, h3⟩⟩, Z, p.2, R1, (wp_bnd w2).mono fun q w3 u H2 ru _ _ _ R2 k2 => ?_⟩
      obtain ⟨i, ei, w4⟩ := wp_of w3
      obtain ⟨k, ns, ey, rfl, hk, rfl⟩ := ixof_of ei
      have rv2 := rv.keep (H' := H2) (k2.av m2 (dis_l m3)) (k2.av m2 (dis_r m3))
      simp only [RepT, RepD] at rv2
      obtain ⟨t', ws', et, s2, rb⟩ := rv2
      cases et
      rw [ey] at ru
      obtain rfl : u = .int k := ru
      rw [ints_V rb] at s2
      exact ⟨ns.map .int, ns.idxOf k, .inr ⟨rfl, s2.sq⟩, idxAt_ints hk, fin ei w4 R2 k2⟩
  · cases h1
end
end Hx

set_option Elab.async false
set_option linter.all false
set_option maxRecDepth 100000
set_option maxHeartbeats 4000000
/-! T2: dict(zip(t, u)) of two tuples. -/
namespace Hx
open PySem PySem.Spec PyProof.Rows L2
open PySem.Sem (wp)
section
variable {prog : Program} {w : World} {A : Around} {E : Value → Shared → Prop} {s : Shared}
/-- the next pair of a zip whose last one is still out: whatever the two iterators do, one behind the other -/
theorem held_next {z TI TO T a b : Addr} {f : Bool} {oT : Obj} {Q : Value → Shared → Prop} (gz : IsZipHeld s.heap z TI TO T f) (gT : s.heap.get? T = some oT) (gI : IsPair s.heap TI (.ref a) (.ref b))
    (draw : ∀ h₁ : Heap, IsZipHeld h₁ z TI TO T true → Heap.SameBut z s.heap h₁ → wpAny (model prog w) A (Builtin.SmallTypes.nextOf (.ref a)) (fun x s₁ =>
      wpAny (model prog w) A (Builtin.SmallTypes.nextOf (.ref b)) (fun y s₂ => Q (.ref s₂.heap.objs.size) { s₂ with heap := s₂.heap.push { cls := .type "tuple", data := .seq #[x, y] } }) E s₁) E { s with heap := h₁ }) :
    wpAny (model prog w) A (Builtin.«zip.__next__» ⟨[.ref z], []⟩) (fun fin s' => ∃ v, fin = .done (.ret v) ∧ Q v s') E s := by
  unfold Builtin.«zip.__next__»
  wp_walk using wpAny_field gz rfl (i := 2) (x := .bool false) rfl, wpAny_field gz rfl (i := 3) (x := .ref TI) rfl, wpAny_seqItems gI rfl, wpAny_tupleHeld_zip gz gT
  intro h₁ z1 sb1
  have d := draw h₁ z1 sb1
  rw [if_neg Bool.false_ne_true]
  refine wpAny_bind ?_
  rw [← Array.forIn_toList, List.forIn_cons]
  refine wpAny_bind (wpAny_bind (wpAny_holding ?_))
  show wpAny _ _ (Builtin.SmallTypes.nextOf (.ref a) >>= _) _ _ _
  refine wpAny_bind (wpAny_mono d (fun x s₁ d2 => wpAny_pure (wpAny_pure ?_)) fun _ _ e => e)
  dsimp only
  rw [List.forIn_cons]
  refine wpAny_bind (wpAny_bind (wpAny_holding ?_))
  show wpAny _ _ (Builtin.SmallTypes.nextOf (.ref b) >>= _) _ _ _
  refine wpAny_bind (wpAny_mono d2 (fun y s₂ q => wpAny_pure (wpAny_pure ?_)) fun _ _ e => e)
  dsimp only
  rw [List.forIn_nil]
  refine wpAny_pure ?_
  dsimp only
  refine wpAny_bind (wpAny_newTuple (wpAny_pure ⟨_, rfl, ?_⟩) (by show 2 ≤ sizeLine; rw [sizeLine_eq]; decide))
  exact q
/-- one pair more, two tuples -/
theorem held_item {z TI TO T a b l m : Addr} {f : Bool} {oT : Obj} {i j : Nat} {xs ys : Array Value} {x y : Value} {Q : Option Value → Shared → Prop} (D : ZipApart z TI TO a b l m) (gz : IsZipHeld s.heap z TI TO T f) (gT : s.heap.get? T = some oT) (gI : IsPair s.heap TI (.ref a) (.ref b))
    (ia : s.heap.IsTupleIter a l i) (ib : s.heap.IsTupleIter b m j) (tl : s.heap.IsTuple l xs) (tm : s.heap.IsTuple m ys) (ex : xs[i]? = some x) (ey : ys[j]? = some y)
    (q : ∀ h', IsZipHeld h' z TI TO T true → h'.IsTupleIter a l (i + 1) → h'.IsTupleIter b m (j + 1) → h'.get? s.heap.objs.size = some { cls := .type "tuple", data := .seq #[x, y] } → (∀ c o, c ≠ z → c ≠ a → c ≠ b → s.heap.get? c = some o → h'.get? c = some o) →
      Q (some (.ref s.heap.objs.size)) { s with heap := h' }) : wpAny (model prog w) A (pyNext (.ref z)) Q E s := by
  have ty : s.TypeIs (.ref z) "zip" := ⟨_, gz, rfl⟩
  unfold pyNext
  refine wpAny_bind (wpAny_attempt (wpAny_callSpecial?_slot (name := Str.ofString "__next__") ty F.slot_zip_next (wpAny_call_entry F.slot_zip_next ty F.entry_zip_next (held_next gz gT gI fun h₁ z1 sb1 => ?_) (F.args_zip_next_1 _))))
  have k1 : ∀ c o, c ≠ z → s.heap.get? c = some o → h₁.get? c = some o := fun c o n e => sb1.extBut _ _ n e
  refine RZ.nextOf_tuple_item (s := { s with heap := h₁ }) (ia.at fun o => k1 a o D.i1z) (tl.at fun o => k1 l o D.l1z) ex fun h₂ a2 sb2 => ?_
  have k2 : ∀ c o, c ≠ z → c ≠ a → s.heap.get? c = some o → h₂.get? c = some o := fun c o n n' e => sb2.extBut _ _ n' (k1 c o n e)
  refine RZ.nextOf_tuple_item (s := { s with heap := h₂ }) (ib.at fun o => k2 b o D.i2z D.i12.symm) (tm.at fun o => k2 m o D.l2z D.l2i1) ey fun h₃ b3 sb3 => wpAny_pure ?_
  have k3 : ∀ c o, c ≠ z → c ≠ a → c ≠ b → s.heap.get? c = some o → h₃.get? c = some o := fun c o n n' n'' e => sb3.extBut _ _ n'' (k2 c o n n' e)
  have z3 : IsZipHeld h₃ z TI TO T true := sb3.extBut _ _ D.i2z.symm (sb2.extBut _ _ D.i1z.symm z1)
  have n3 : h₃.objs.size = s.heap.objs.size := sb3.1.trans (sb2.1.trans sb1.1)
  show Q (some (.ref h₃.objs.size)) _
  have push : ∀ c o, h₃.get? c = some o → (h₃.push { cls := .type "tuple", data := .seq #[x, y] }).get? c = some o := fun c o e => Heap.get?_push_of_some _ e
  have new : (h₃.push { cls := .type "tuple", data := .seq #[x, y] }).get? h₃.objs.size = some { cls := .type "tuple", data := .seq #[x, y] } := Heap.get?_push_size _ rfl
  rw [n3] at new ⊢
  exact q _ (push _ _ z3) ((a2.at fun o e => sb3.extBut _ _ D.i12 e).at fun o => push a o) (b3.at fun o => push b o) new fun c o n n' n'' e => push c o (k3 c o n n' n'' e)
/-- no pair more -/
theorem held_done {z TI TO T a b l m : Addr} {f : Bool} {oT : Obj} {i j : Nat} {xs ys : Array Value} {Q : Option Value → Shared → Prop} (hA : A.handled = none) (D : ZipApart z TI TO a b l m) (gz : IsZipHeld s.heap z TI TO T f) (gT : s.heap.get? T = some oT) (gI : IsPair s.heap TI (.ref a) (.ref b))
    (ia : s.heap.IsTupleIter a l i) (ib : s.heap.IsTupleIter b m j) (tl : s.heap.IsTuple l xs) (tm : s.heap.IsTuple m ys) (no : xs[i]? = none ∨ ys[j]? = none)
    (q : ∀ h', (∀ c o, c ≠ z → c ≠ a → c ≠ b → s.heap.get? c = some o → h'.get? c = some o) → Q none { s with heap := h' }) : wpAny (model prog w) A (pyNext (.ref z)) Q E s := by
  have ty : s.TypeIs (.ref z) "zip" := ⟨_, gz, rfl⟩
  unfold pyNext
  refine wpAny_bind (wpAny_attempt (wpAny_callSpecial?_slot (name := Str.ofString "__next__") ty F.slot_zip_next (wpAny_call_entry F.slot_zip_next ty F.entry_zip_next (held_next gz gT gI fun h₁ z1 sb1 => ?_) (F.args_zip_next_1 _))))
  have k1 : ∀ c o, c ≠ z → s.heap.get? c = some o → h₁.get? c = some o := fun c o n e => sb1.extBut _ _ n e
  cases ex : xs[i]? with
  | none => exact RZ.nextOf_tuple_end (s := { s with heap := h₁ }) hA (ia.at fun o => k1 a o D.i1z) (tl.at fun o => k1 l o D.l1z) ex fun h₂ e sb2 ⟨o, ho, hc⟩ => wpAny_bind (wpAny_isInstance (T := "StopIteration") (b := true) ⟨o, ho, hc⟩ isSubtype_stop (wpAny_pure (q _ fun c o n n' _ x => sb2 _ _ n' (k1 c o n x))))
  | some x =>
    refine RZ.nextOf_tuple_item (s := { s with heap := h₁ }) (ia.at fun o => k1 a o D.i1z) (tl.at fun o => k1 l o D.l1z) ex fun h₂ a2 sb2 => ?_
    have k2 : ∀ c o, c ≠ z → c ≠ a → s.heap.get? c = some o → h₂.get? c = some o := fun c o n n' e => sb2.extBut _ _ n' (k1 c o n e)
    exact RZ.nextOf_tuple_end (s := { s with heap := h₂ }) hA (ib.at fun o => k2 b o D.i2z D.i12.symm) (tm.at fun o => k2 m o D.l2z D.l2i1) (no.resolve_left fun z => by rw [ex] at z; cases z) fun h₃ e sb3 ⟨o, ho, hc⟩ => wpAny_bind (wpAny_isInstance (T := "StopIteration") (b := true) ⟨o, ho, hc⟩ isSubtype_stop (wpAny_pure (q _ fun c o n n' n'' x => sb3 _ _ n'' (k2 c o n n' x))))
/-- the pairs of a zip of two tuples, while at d a dict is filled: i of them are out -/
structure ZSt (h : Heap) (z TI TO a b l m d : Addr) (xs ys : Array Value) (i : Nat) : Prop where
  pr : IsPair h TI (.ref a) (.ref b)
  ia : h.IsTupleIter a l i
  ib : h.IsTupleIter b m i
  tl : h.IsTuple l xs
  tm : h.IsTuple m ys
  zip : (IsZip h z TI TO .none ∧ ∃ p q, IsPair h TO p q) ∨ ∃ T f oT, IsZipHeld h z TI TO T f ∧ h.get? T = some oT ∧ T ≠ z ∧ T ≠ a ∧ T ≠ b ∧ T ≠ d
end
section
variable {prog : Program} {w : World}
theorem zipT_src {A : Around} {z TI TO a b l m d : Addr} (D : ZipApart z TI TO a b l m) (xs ys : Array Value) (hA : A.handled = none) (nd : d ∉ [z, TI, TO, a, b, l, m]) :
    PairSrc prog w A z d [z, TO, a, b] (min xs.size ys.size) (fun i k v => xs[i]? = some k ∧ ys[i]? = some v) (fun i h => ZSt h z TI TO a b l m d xs ys i) := by
  simp only [List.mem_cons, List.not_mem_nil, or_false, not_or] at nd
  obtain ⟨dz, dI, dO, da, db, dl, dm⟩ := nd
  have far : ∀ {c : Addr}, c ∉ [z, TO, a, b] → c ≠ z ∧ c ≠ TO ∧ c ≠ a ∧ c ≠ b := fun h => by simpa [not_or] using h
  refine ⟨by simp [dz, dO, da, db], fun i h h' st k => ?_, fun i s Q E hi st hd q => ?_, fun s Q E st q => ?_⟩
  · refine ⟨k _ _ (Ne.symm dI) st.pr, st.ia.at fun o => k _ o (Ne.symm da), st.ib.at fun o => k _ o (Ne.symm db), st.tl.at fun o => k _ o (Ne.symm dl), st.tm.at fun o => k _ o (Ne.symm dm), ?_⟩
    rcases st.zip with ⟨y, p, q, hO⟩ | ⟨T, f, oT, y, hT, r⟩
    · exact .inl ⟨k _ _ (Ne.symm dz) y, p, q, k _ _ (Ne.symm dO) hO⟩
    · exact .inr ⟨T, f, oT, k _ _ (Ne.symm dz) y, k _ _ r.2.2.2 hT, r⟩
  · have ex := Array.getElem?_eq_getElem (show i < xs.size by omega)
    have ey := Array.getElem?_eq_getElem (show i < ys.size by omega)
    have low : ∀ {c : Addr} {o : Obj}, s.heap.get? c = some o → s.heap.objs.size ≠ c := fun e => Nat.ne_of_gt (Heap.lt_size e)
    have na : s.heap.objs.size ≠ a := st.ia.elim fun o e => low e.1
    have nb : s.heap.objs.size ≠ b := st.ib.elim fun o e => low e.1
    rcases st.zip with ⟨y, p, p', hO⟩ | ⟨T, f, oT, y, hT, r1, r2, r3, r4⟩
    · refine RZ.pyNext_zipT_item D y st.pr hO st.ia st.ib st.tl st.tm ex ey fun h' y' _ a' b' new _ k => ?_
      refine q s.heap.objs.size _ _ h' s.toks ⟨ex, ey⟩ (.inl ⟨_, new, rfl, _, rfl⟩) ⟨k _ _ D.TIz D.TITO D.TIi1 D.TIi2 st.pr, a', b', st.tl.at fun o => k _ o D.l1z D.l1TO D.l1i1 D.l1i2, st.tm.at fun o => k _ o D.l2z D.l2TO D.l2i1 D.l2i2, .inr ⟨_, false, _, y', new, low y, na, nb, Nat.ne_of_gt hd⟩⟩ fun c o hc => ?_
      obtain ⟨n1, n2, n3, n4⟩ := far hc
      exact k c o n1 n2 n3 n4
    · refine held_item D y hT st.pr st.ia st.ib st.tl st.tm ex ey fun h' y' a' b' new k => ?_
      refine q s.heap.objs.size _ _ h' s.toks ⟨ex, ey⟩ (.inl ⟨_, new, rfl, _, rfl⟩) ⟨k _ _ D.TIz D.TIi1 D.TIi2 st.pr, a', b', st.tl.at fun o => k _ o D.l1z D.l1i1 D.l1i2, st.tm.at fun o => k _ o D.l2z D.l2i1 D.l2i2, .inr ⟨T, true, oT, y', k _ _ r1 r2 r3 hT, r1, r2, r3, r4⟩⟩ fun c o hc => ?_
      obtain ⟨n1, _, n3, n4⟩ := far hc
      exact k c o n1 n3 n4
  · have no : xs[min xs.size ys.size]? = none ∨ ys[min xs.size ys.size]? = none := by
      rcases Nat.le_total xs.size ys.size with h | h
      · exact .inl (Array.getElem?_eq_none (by omega))
      · exact .inr (Array.getElem?_eq_none (by omega))
    rcases st.zip with ⟨y, p, p', hO⟩ | ⟨T, f, oT, y, hT, r⟩
    · exact RZ.pyNext_zipT_end hA D y st.pr hO st.ia st.ib st.tl st.tm no fun h' k => q h' s.toks fun c o hc => (fun ⟨n1, n2, n3, n4⟩ => k c o n1 n2 n3 n4) (far hc)
    · exact held_done hA D y hT st.pr st.ia st.ib st.tl st.tm no fun h' k => q h' s.toks fun c o hc => (fun ⟨n1, _, n3, n4⟩ => k c o n1 n3 n4) (far hc)
theorem zipT_arg {z TI TO a b l m : Addr} (D : ZipApart z TI TO a b l m) (xs ys : Array Value) : PairArg prog w "zip" z [z, TI, TO, a, b, l, m] [z, TO, a, b] (min xs.size ys.size) (fun i k v => xs[i]? = some k ∧ ys[i]? = some v)
    (fun h => IsZip h z TI TO .none ∧ IsPair h TI (.ref a) (.ref b) ∧ (∃ p q, IsPair h TO p q) ∧ h.IsTupleIter a l 0 ∧ h.IsTupleIter b m 0 ∧ h.IsTuple l xs ∧ h.IsTuple m ys) where
  type := fun s ok => ⟨_, ok.1, rfl⟩
  notDict := rfl
  keep := fun h h' ⟨y, pI, ⟨p, q, pO⟩, ia, ib, tl, tm⟩ k => ⟨k _ _ y, k _ _ pI, ⟨p, q, k _ _ pO⟩, ia.at (k _), ib.at (k _), tl.at (k _), tm.at (k _)⟩
  there := fun h ⟨y, pI, ⟨p, q, pO⟩, ⟨_, ia, _⟩, ⟨_, ib, _⟩, ⟨_, tl, _⟩, _, tm, _⟩ c hc => by
    simp only [List.mem_cons, List.not_mem_nil, or_false] at hc
    rcases hc with rfl | rfl | rfl | rfl | rfl | rfl | rfl <;> exact ⟨_, by assumption⟩
  sub := fun c hc => by
    simp only [List.mem_cons, List.not_mem_nil, or_false] at hc ⊢
    rcases hc with h | h | h | h <;> simp [h]
  noKeys := fun A s Q E hA ok h => getAttrOr_miss_zip ok.1 rfl rfl rfl zip_no_keys (by decide +kernel) hA h
  iter := fun A s d Q E hA ⟨y, pI, pO, ia, ib, tl, tm⟩ hd nd h => wpAny_pyIter_zip y (h z [z, TO, a, b] _ s.heap s.toks (zipT_src D xs ys hA nd) ⟨pI, ia, ib, tl, tm, .inl ⟨y, pO⟩⟩ (fun _ _ e => e) fun c hc => .inl hc)
end
/-- keys and values, as far as both reach -/
def ZK : List V → List V → List (Key × V) → Prop
  | x :: xs, y :: ys, kv :: kvs => x = kV kv.1 ∧ y = kv.2 ∧ ZK xs ys kvs
  | _ :: _, _ :: _, [] => False
  | _, _, kvs => kvs = []
theorem kIs {k : Key} {v : Value} (r : RelV (kV k) v) : keyIs k v = true := by
  cases k with
  | inl i => obtain ⟨t, rfl⟩ := r; exact keyIs_int i t
  | inr x => obtain ⟨t, rfl⟩ := r; exact keyIs_str x t
theorem zk_pairs : ∀ {xs ys : List V} {its jts : List Value} {kvs : List (Key × V)}, Vals xs its → Vals ys jts → ZK xs ys kvs → ∃ prs : List (Key × Value), KV kvs prs ∧ prs.length = min its.length jts.length ∧ ∀ (i : Nat) (k v : Value), its[i]? = some k → jts[i]? = some v → ∃ kk, prs[i]? = some (kk, v) ∧ keyIs kk k = true
  | [], ys, _, jts, kvs, r, r', h => by
    cases r
    cases ys <;> (cases (show kvs = [] from h); exact ⟨[], .nil, by simp, fun i k v e => by simp at e⟩)
  | x :: xs, [], _, _, kvs, r, r', h => by
    cases r'
    cases (show kvs = [] from h)
    exact ⟨[], .nil, by simp, fun i k v _ e => by simp at e⟩
  | x :: xs, y :: ys, _, _, [], _, _, h => h.elim
  | x :: xs, y :: ys, _, _, kv :: kvs, r, r', h => by
    obtain ⟨rfl, rfl, h2⟩ := (show _ ∧ _ ∧ _ from h)
    cases r with
    | cons rx r =>
      cases r' with
      | cons ry r' =>
        rename_i u us u' us'
        obtain ⟨prs, k1, k2, k3⟩ := zk_pairs r r' h2
        refine ⟨(kv.1, u') :: prs, .cons ⟨rfl, ry⟩ k1, by simp only [List.length_cons, k2]; omega, fun i k v e1 e2 => ?_⟩
        cases i with
        | zero =>
          rw [List.getElem?_cons_zero] at e1 e2
          cases e1
          cases e2
          exact ⟨kv.1, rfl, kIs rx⟩
        | succ i =>
          rw [List.getElem?_cons_succ] at e1 e2 ⊢
          exact k3 i k v e1 e2
def tDzip (K : PySem.W.Frag) (ta : TA) : TE := fun σ H Q => ta σ H fun vs H1 => ∃ a b xs ys kvs, vs = [.ref a, .ref b] ∧ SqT K H1 a xs ∧ SqT K H1 b ys ∧ ZK xs ys kvs ∧ ∀ p, H1 p = none → Q (.ref p) (upd H1 p (.dK (mergeK [] kvs)))
section
variable {X : Cx}
theorem pe_dzip {e e2 : Expr} {ta : TA} {p p2 pos pos2 : Pos} (hc : X.calm = true) (hd : Gl X "dict") (hm : X.mg "dict" = none) (hz : Gl X "zip") (hmz : X.mg "zip" = none) (ha : PA X [e, e2] ta)
    (hs : starEach [e, e2] X.env = (false, eval e X.env) :: starEach [e2] X.env) (hpl : (backTo pos2 (starEach [e2] X.env)).any (·.1) = false) :
    PE X (.Call (.Name "dict" p) [.Call (.Name "zip" p2) [e, e2] [] pos2] [] pos) (tDzip X.K ta) := by
  refine ⟨fun pins s σ H Q I h => ?_⟩
  refine Call_ (ld_blt I hd hm boot_dict (PyProof.Rows.callWith_type1 (args_cons ?_ rfl) rfl))
  refine Call_ (ld_blt I hz hmz PyProof.Rows.boot_zip (PyProof.Rows.callWith_type1 (thn (ha.run pos2 pins s σ H _ I h) ?_) hs hpl))
  rintro us s1 ⟨vs, H1, I1, r1, a, b, xs, ys, kvs, rfl, sa, sb, zk, q⟩
  obtain ⟨_, rfl, rest⟩ : ∃ u, us = [.ref a, .ref b] ∧ u = () := by
    cases r1 with
    | cons r rr =>
      cases rr with
      | cons r' rr =>
        cases rr
        cases r
        cases r'
        exact ⟨(), rfl, rfl⟩
  clear rest
  obtain ⟨its, rv, pa, za⟩ := I1.tuple sa
  obtain ⟨jts, rw_, pb, zb⟩ := I1.tuple sb
  obtain ⟨oa, hoa, _⟩ := id pa
  obtain ⟨ob, hob, _⟩ := id pb
  refine RZ.call_zipT (show s1.heap.IsTuple a its.toArray from pa) (show s1.heap.IsTuple b jts.toArray from pb) fun h' hzip hI hO ia ib hsz keep => args_nil ?_
  have I2 : Inv X pins σ H1 { s1 with heap := h' } := I1.kept (t' := s1.toks) keep
  obtain ⟨prs, k1, k2, k3⟩ := zk_pairs rv rw_ zk
  have D := PySem.W.ktu_apart s1.heap.objs.size a b (Heap.lt_size hoa) (Heap.lt_size hob)
  have lena := rv.length
  have lenb := rw_.length
  have klen : kvs.length = prs.length := k1.length
  refine PySem.call_dict_pairs (knd := mixKind X.prog X.w) (kvs := prs) (zipT_arg D its.toArray jts.toArray) (I2.ok.hd hc) ⟨hzip, hI, ⟨_, _, hO⟩, ia, ib, pa.keeps keep, pb.keeps keep⟩ ⟨by simpa using k2, fun i k v hk => ?_⟩ ?_ fun h'' tk hd' keep' => ?_
  · exact k3 i k v (by simpa using hk.1) (by simpa using hk.2)
  · rw [List.size_toArray, List.size_toArray]
    omega
  · have low : ∀ c ∈ [s1.heap.objs.size + 4, s1.heap.objs.size + 3, s1.heap.objs.size, s1.heap.objs.size + 1], FpOk X pins H1 c := fun c hc => by
      have le : s1.heap.objs.size ≤ c := by
        simp only [List.mem_cons, List.not_mem_nil, or_false] at hc
        omega
      exact I1.fpOk le (I1.hok.fresh le)
    have no : (h'.objs.size == sysModules) = false := beq_eq_false_iff_ne.mpr (Nat.ne_of_gt I2.big)
    have len : (mergeK [] kvs).length ≤ sizeLine := by
      have := length_mergeK kvs []
      rw [List.length_nil] at this
      omega
    exact ⟨.ref h'.objs.size, _, I2.turnedNew (t' := tk) (ob := .dK (mergeK [] kvs)) keep' low (Nat.le_refl _) (show ObjOk X.prog X.w _ h'' _ (.dK (mergeK [] kvs)) from ⟨len, no, merged [] prs, KV.merge k1 .nil, hd'⟩), rfl, q _ (I2.hok.fresh (Nat.le_refl _))⟩
end
end Hx

set_option Elab.async false
set_option linter.all false
set_option maxRecDepth 100000
set_option maxHeartbeats 4000000
/-! T3: dict(zip(a, b)) as a form. -/
namespace Hx
open PySem PySem.Spec PyProof.Rows L2
theorem zrep {K : PySem.W.Frag} {A1 A2 : Addr → Prop} {H : Hp} : ∀ {xs ys : List PyData} {kvs : List (PyData × PyData)} {vs ws : List V}, pairsOf (zip2 xs ys) = some kvs → (kvs.all fun p => keyOk p.1) = true → RepA K A1 H xs vs → RepA K A2 H ys ws → ∃ kv, ZK vs ws kv ∧ RepK K A2 H kvs kv
  | [], ys, kvs, vs, ws, e, _, r, r' => by
    cases e
    simp only [RepA] at r
    subst r
    exact ⟨[], by cases ws <;> rfl, by simp only [RepK]⟩
  | x :: xs, [], kvs, vs, ws, e, _, r, r' => by
    cases e
    simp only [RepA] at r r'
    obtain ⟨v, vs', rfl, _⟩ := r
    subst r'
    exact ⟨[], rfl, by simp only [RepK]⟩
  | x :: xs, y :: ys, kvs, vs, ws, e, k, r, r' => by
    have e' : (pairsOf (zip2 xs ys)).map ((x, y) :: ·) = some kvs := e
    obtain ⟨kvs', e1, rfl⟩ := Option.map_eq_some_iff.mp e'
    rw [List.all_cons, Bool.and_eq_true] at k
    simp only [RepA] at r r'
    obtain ⟨v, vs', rfl, rx, r⟩ := r
    obtain ⟨u, ws', rfl, ry, r'⟩ := r'
    obtain ⟨kv, z, rk⟩ := zrep e1 k.2 r r'
    cases x with
    | int i =>
      simp only [RepD] at rx
      subst rx
      exact ⟨(.inl i, u) :: kv, ⟨rfl, rfl, z⟩, by simp only [RepK]; exact ⟨.inl i, u, kv, rfl, rfl, ry, rk⟩⟩
    | str i =>
      simp only [RepD] at rx
      subst rx
      exact ⟨(.inr i, u) :: kv, ⟨rfl, rfl, z⟩, by simp only [RepK]; exact ⟨.inr i, u, kv, rfl, rfl, ry, rk⟩⟩
    | _ => simp [keyOk] at k
section
variable {Γ : List Callee} {ER : ERel} {S : SC} {W : WX} {X : Cx} {G : List Nat}
theorem s_dzip (C : CxOk Γ ER S W X) {a b : IE} (ha : JE Γ ER S W X G a) (hb : JE Γ ER S W X G b) : JE Γ ER S W X G (.dzip a b) := by
  intro x h
  have h' : (kDzip S (chkE S G a) (chkE S G b) x && aft G (infE S.sg G a) (infE S.sg G b)) = true := h
  rw [Bool.and_eq_true] at h'
  obtain ⟨h1, h2⟩ := h'
  obtain ⟨m1, m2, m3⟩ := aft_of h2
  unfold kDzip at h1
  split at h1
  · rename_i y py n pn u v pz pd
    simp only [Bool.and_eq_true] at h1
    obtain ⟨⟨⟨⟨⟨⟨⟨k1, k2⟩, k3⟩, k4⟩, k5⟩, k6⟩, k7⟩, k8⟩ := h1
    obtain rfl := beq_iff_eq.mp k1
    obtain rfl := beq_iff_eq.mp k3
    refine (pe_dzip C.calm (C.glo k2) (C.blt _ (by decide)) (C.glo k4) (C.blt _ (by decide)) (pa_cons (ha u k7) (pa_cons (hb v k8) pa_nil (star_plain k6)) (star_plain k5)) (star_plain k5) (star_any (by rw [List.all_cons, k6]; rfl))).imp fun σ H Q q => ?_
    refine m_op2 (op := dzipD) (F := fun d => d) (r := fun v u H Q => ∃ a b xs ys kvs, [v, u] = [.ref a, .ref b] ∧ SqT X.K H a xs ∧ SqT X.K H b ys ∧ ZK xs ys kvs ∧ ∀ p, H p = none → Q (.ref p) (upd H p (.dK (mergeK [] kvs)))) (f := infE S.sg G (.dzip a b)) m2 m1 m3 (subL_refl _) (subL_refl _) rfl nofun nofun ?_ q
    intro Z H2 x y v u d Q rv ru e dom fr q
    cases x with
    | tuple xs =>
      cases y with
      | tuple ys =>
        have e' : ((pairsOf (zip2 xs ys)).bind fun kvs => if (kvs.all fun p => keyOk p.1) = true then some (PyData.dict (putsD [] kvs)) else none) = some d := e
        obtain ⟨kvs, e1, e2⟩ := Option.bind_eq_some_iff.mp e'
        split at e2
        · rename_i hk
          cases e2
          simp only [RepT, RepD] at rv ru
          obtain ⟨p, vs, rfl, s1, r1⟩ := rv
          obtain ⟨p2, ws, rfl, s2, r2⟩ := ru
          obtain ⟨kv, z, rk⟩ := zrep e1 hk r1 r2
          refine ⟨p, p2, vs, ws, kv, rfl, s1.sq, s2.sq, z, fun t ht => ?_⟩
          have na : ¬ Av Z G (infE S.sg G (.dzip a b)).el σ t := fun z => by
            obtain ⟨o, e⟩ := dom t z
            rw [ht] at e; cases e
          have g := grow_upd (o := .dK (mergeK [] kv)) ht
          refine q _ _ g ?_ fun xs e => by cases e
          simp only [RepD]
          exact ⟨t, _, rfl, ⟨.inl upd_same, na⟩, RepK.keep (fun a o e _ => g a o e) _ _ (RepK.puts rk RepK.nil)⟩
        · cases e2
      | _ => cases e
    | _ => cases e
  · cases h1
end
end Hx

set_option Elab.async false
set_option linter.all false
set_option maxRecDepth 100000
set_option maxHeartbeats 4000000
/-! T4: d[k], keys ints and texts. -/
namespace Hx
open PySem PySem.Spec PyProof.Rows L2
theorem RepK.val {K : PySem.W.Frag} {A : Addr → Prop} {H : Hp} {k : PyData} {kk : Key} (hk : keyD k = some kk) : ∀ {kvs : List (PyData × PyData)} {vs : List (Key × V)} {d : PyData}, RepK K A H kvs vs → (kvs.find? fun p => PyData.eqv p.1 k).map (·.2) = some d → ∃ v, valV vs kk = some v ∧ RepD K A H d v
  | [], _, d, _, e => by cases e
  | (k', d') :: kvs, vs, d, h, e => by
    simp only [RepK] at h
    obtain ⟨kk', v', r, rfl, h0, h1, h2⟩ := h
    have ek := key_eq h0 hk
    by_cases q : kk' = kk
    · rw [List.find?_cons, show PyData.eqv (k', d').1 k = true by rw [ek]; exact decide_eq_true q] at e
      cases e
      exact ⟨v', valV_pos q, h1⟩
    · rw [List.find?_cons, show PyData.eqv (k', d').1 k = false by rw [ek]; exact decide_eq_false q] at e
      obtain ⟨v, e1, r1⟩ := RepK.val hk h2 e
      exact ⟨v, (valV_neg q).trans e1, r1⟩
theorem no_slice {e : Expr} (h : plainX e = true) : NoSl e := by
  intro o i
  cases e <;> first | rfl | cases h
section
variable {Γ : List Callee} {ER : ERel} {S : SC} {W : WX} {X : Cx} {G : List Nat}
theorem s_dget (C : CxOk Γ ER S W X) {a k : IE} (ha : JE Γ ER S W X G a) (hk : JE Γ ER S W X G k) : JE Γ ER S W X G (.dget a k) := by
  intro x h
  have h' : (kIdx (chkE S G a) (chkE S G k) x && aft G (infE S.sg G a) (infE S.sg G k)) = true := h
  rw [Bool.and_eq_true] at h'
  obtain ⟨h1, h2⟩ := h'
  obtain ⟨m1, m2, m3⟩ := aft_of h2
  unfold kIdx at h1
  split at h1
  · rename_i y z pos
    rw [Bool.and_eq_true, Bool.and_eq_true] at h1
    obtain ⟨⟨k1, k2⟩, k3⟩ := h1
    have un := C.un
    refine (pe_dget (by omega) (ha y k1) (hk z k2) (no_slice k3)).imp fun σ H Q hq => ?_
    obtain ⟨Z, ρ, R, w0⟩ := hq
    have w0' : Wp (ExW X.K ER W Z G σ) (fun p' => PostE X.K Z G (infE S.sg G (.dget a k)) σ H p' Q) ((evE Γ a ρ).bnd fun p => (evE Γ k p.2).bnd fun q => (Res.of (dgetD p.1 q.1)).bnd fun d => .ok (d, q.2)) := w0
    refine ⟨Z, ρ, R, (wp_bnd w0').mono fun p w1 v H1 rv _ _ _ R1 k1 => ?_⟩
    refine ⟨Z, p.2, R1, (wp_bnd w1).mono fun q w2 u H2 ru _ _ _ R2 k2 => ?_⟩
    obtain ⟨d, ed, w3⟩ := wp_of w2
    have rv' := rv.keep (k2.av m2 (dis_l m3)) (k2.av m2 (dis_r m3))
    have fin : ∀ w', RepD X.K (Av Z G (infE S.sg G a).el σ) H2 d w' → Q w' H2 := fun w' r => w3 w' H2 (RepT.ofD r) nofun nofun nofun R2 (k1.left.trans k2.right)
    match hp : p.1 with
    | .dict kvs =>
      rw [hp] at ed rv'
      have ed' : (if keyOk q.1 = true then (kvs.find? fun p => PyData.eqv p.1 q.1).map (·.2) else none) = some d := ed
      split at ed'
      · rename_i ok
        obtain ⟨t, ws, rfl, s1, ra⟩ := rv'
        obtain ⟨kk, e1, e2⟩ := keyOk_key ok
        obtain ⟨w', e3, r1⟩ := RepK.val e1 ra ed'
        obtain rfl := e2 (RepT.toD (A' := fun _ => False) (fun _ z => z.elim) (fun _ z => z.elim) ru)
        exact ⟨t, w', rfl, .inl ⟨ws, kk, s1.1, rfl, e3.symm⟩, fin w' r1⟩
      · cases ed'
    | .none => rw [hp] at ed; cases ed
    | .bool _ => rw [hp] at ed; cases ed
    | .int _ => rw [hp] at ed; cases ed
    | .str _ => rw [hp] at ed; cases ed
    | .list _ => rw [hp] at ed; cases ed
    | .tuple _ => rw [hp] at ed; cases ed
  · cases h1
end
end Hx

set_option Elab.async false
set_option linter.all false
set_option maxRecDepth 100000
set_option maxHeartbeats 4000000
/-! H15: calls of the module's defs. -/
namespace Hx
open PySem PySem.Spec PyProof.Rows L2
section
variable {X : Cx} {W : WX} {k : Nat} {f : Addr} {fd : FuncData} {ps : List Str} {sp : Sp} {x : Str} {p pos : Pos} {e : Expr} {es : List Expr} {t : TA}
theorem pe_callG (F : FnG X.prog X.w X.K X.mg X.base k f fd ps sp) (gd : X.A.guards = some []) (hr : Room k X.A) (hg : Gl X x) (hm : X.mg x = some (.ref f)) (hk : PySem.W.keepIn X.K (.ref f) = true) (hb : Binds X.K fd ps []) (tk : Takes X W)
    (ha : PA X (e :: es) t) (hdb : (x == ("__debug__" : Str)) = false) (he : starEach (e :: es) X.env = (false, eval e X.env) :: starEach es X.env) (hpl : (backTo pos (starEach es X.env)).any (·.1) = false) :
    PE X (.Call (.Name x p) (e :: es) [] pos) (fun σ H Q => t σ H fun vs H1 => sp vs H1 Q fun cls d H' => W cls d σ H') := by
  refine ⟨fun pins s σ H Q I h => ?_⟩
  refine wpAny_Call_Name_kw (ld_glob I hg hm ?_ hdb)
  refine PySem.W.callWith_K (h₀ := X.base) I.ok.mod.kin hk (thn (ha.run pos pins s σ H _ I h) fun us s1 ⟨vs, H1, I1, r, q⟩ => ⟨I1.kIn, ?_⟩) he hpl
  have hl : us.length = ps.length := by rw [← r.length]; exact F.len _ _ _ _ q
  have hb' := hb s1 us I1.kIn (by rw [List.append_nil]; exact hl)
  rw [List.append_nil] at hb'
  refine wpAny_call (codeAny_mono (F.run X.A X.stack s1 H1 ⟨us, []⟩ us vs Q _ gd hr I1.env0 hb' r q) fun r s' hq => ?_)
  cases r with
  | error e => exact tk e s' (XE.of_call I1 (fun _ _ _ h => h) hq)
  | ok fl =>
    cases fl with
    | ret u => exact I1.after hq
    | next => exact False.elim hq
    | brk => exact False.elim hq
    | cont => exact False.elim hq
end
theorem pe_callG0 (F : FnG X.prog X.w X.K X.mg X.base k f fd ps sp) (gd : X.A.guards = some []) (hr : Room k X.A) (hg : Gl X x) (hm : X.mg x = some (.ref f)) (hk : PySem.W.keepIn X.K (.ref f) = true) (hb : Binds X.K fd ps []) (tk : Takes X W) (hdb : (x == ("__debug__" : Str)) = false) :
    PE X (.Call (.Name x p) [] [] pos) (fun σ H Q => sp [] H Q fun cls d H' => W cls d σ H') := by
  refine ⟨fun pins s σ H Q I h => ?_⟩
  refine wpAny_Call_Name_kw (ld_glob I hg hm ?_ hdb)
  have hl : ([] : List Value).length = ps.length := F.len _ _ _ _ h
  have hb' := hb s [] I.kIn hl
  refine PySem.W.callWith_K0 I.kIn hk (wpAny_call (codeAny_mono (F.run X.A X.stack s H ⟨[], []⟩ [] [] Q _ gd hr I.env0 hb' .nil h) fun r s' hq => ?_))
  cases r with
  | error e => exact tk e s' (XE.of_call I (fun _ _ _ h => h) hq)
  | ok fl =>
    cases fl with
    | ret u => exact I.after hq
    | next => exact False.elim hq
    | brk => exact False.elim hq
    | cont => exact False.elim hq
/-- with the keyword-only parameter -/
theorem pe_callGK {te : TE} {kn : Str} {ke : Expr} {kp : Pos} (F : FnG X.prog X.w X.K X.mg X.base k f fd ps sp) (gd : X.A.guards = some []) (hr : Room k X.A) (hg : Gl X x) (hm : X.mg x = some (.ref f)) (hk : PySem.W.keepIn X.K (.ref f) = true)
    (hb : ∀ (s : Shared) (us : List Value) (u : Value), X.K.In s.heap → us.length + 1 = ps.length → BindsTo s fd ⟨us, [(kn, u)]⟩ (ps.zip (us ++ [u]))) (tk : Takes X W)
    (ha : PA X (e :: es) t) (hv : PE X ke te) (hdb : (x == ("__debug__" : Str)) = false) (he : starEach (e :: es) X.env = (false, eval e X.env) :: starEach es X.env) (hpl : (backTo pos (starEach (e :: es) X.env)).any (·.1) = false) :
    PE X (.Call (.Name x p) (e :: es) [⟨some kn, ke, kp⟩] pos) (fun σ H Q => t σ H fun vs H1 => te σ H1 fun v H2 => sp (vs ++ [v]) H2 Q fun cls d H' => W cls d σ H') := by
  refine ⟨fun pins s σ H Q I h => ?_⟩
  have hall : (backToKw pos (keywordEach [⟨some kn, ke, kp⟩] X.env)).all (·.1.isSome) = true := rfl
  have hks : (backToKw pos (keywordEach [⟨some kn, ke, kp⟩] X.env)).filterMap (·.1) = [kn] := rfl
  have hpl' : ((backTo pos (starEach (e :: es) X.env)).any (·.1) || (backToKw pos (keywordEach [⟨some kn, ke, kp⟩] X.env)).any (·.1.isNone)) = false := by rw [hpl]; rfl
  refine wpAny_Call_Name_kw (ld_glob I hg hm ?_ hdb)
  refine PySem.W.callWith_KW (h₀ := X.base) I.ok.mod.kin hk hall (thn (ha.run pos pins s σ H _ I h) fun us s1 ⟨vs, H1, I1, r, q⟩ => ?_) hpl' he
  have q' : tCons te tNil σ H1 fun zs H2 => ∃ v, zs = [v] ∧ sp (vs ++ [v]) H2 Q fun cls d H' => W cls d σ H' := by
    show te σ H1 fun v H2 => ∃ v', [v] = [v'] ∧ sp (vs ++ [v']) H2 Q fun cls d H' => W cls d σ H'
    have e : (fun v H2 => ∃ v', [v] = [v'] ∧ sp (vs ++ [v']) H2 Q fun cls d H' => W cls d σ H') = fun v H2 => sp (vs ++ [v]) H2 Q fun cls d H' => W cls d σ H' := by
      funext v H2
      refine propext ⟨?_, fun h => ⟨v, rfl, h⟩⟩
      rintro ⟨v', e, h⟩
      cases e
      exact h
    rw [e]
    exact q
  rw [hks]
  refine thn ((pk_cons hv pk_nil).run pos pins s1 σ H1 _ I1 q') fun ws s2 ⟨zs, H2, I2, rz, v, ez, q2⟩ => ⟨I2.kIn, ?_⟩
  subst ez
  obtain ⟨u, rfl, r1⟩ := vals1 rz
  · skip
    have hl : (us ++ [u]).length = ps.length := by rw [← F.len _ _ _ _ q2, List.length_append, List.length_append, r.length]; rfl
    have hb' := hb s2 us u I2.kIn (by simpa using hl)
    refine wpAny_call (codeAny_mono (F.run X.A X.stack s2 H2 ⟨us, [(kn, u)]⟩ (us ++ [u]) (vs ++ [v]) Q _ gd hr I2.env0 hb' (r.append (.cons r1 .nil)) q2) fun r s' hq => ?_)
    cases r with
    | error e => exact tk e s' (XE.of_call I2 (fun _ _ _ h => h) hq)
    | ok fl =>
      cases fl with
      | ret u => exact I2.after hq
      | next => exact False.elim hq
      | brk => exact False.elim hq
      | cont => exact False.elim hq
/-- .. that lacks -/
theorem pe_callGD {dv : Value} {z : V} (F : FnG X.prog X.w X.K X.mg X.base k f fd ps sp) (gd : X.A.guards = some []) (hr : Room k X.A) (hg : Gl X x) (hm : X.mg x = some (.ref f)) (hk : PySem.W.keepIn X.K (.ref f) = true) (hz : RelV z dv) (hb : Binds X.K fd ps [dv]) (tk : Takes X W)
    (ha : PA X (e :: es) t) (hdb : (x == ("__debug__" : Str)) = false) (he : starEach (e :: es) X.env = (false, eval e X.env) :: starEach es X.env) (hpl : (backTo pos (starEach es X.env)).any (·.1) = false) :
    PE X (.Call (.Name x p) (e :: es) [] pos) (fun σ H Q => t σ H fun vs H1 => sp (vs ++ [z]) H1 Q fun cls d H' => W cls d σ H') := by
  refine ⟨fun pins s σ H Q I h => ?_⟩
  refine wpAny_Call_Name_kw (ld_glob I hg hm ?_ hdb)
  refine PySem.W.callWith_K (h₀ := X.base) I.ok.mod.kin hk (thn (ha.run pos pins s σ H _ I h) fun us s1 ⟨vs, H1, I1, r, q⟩ => ⟨I1.kIn, ?_⟩) he hpl
  have r' : Vals (vs ++ [z]) (us ++ [dv]) := r.append (.cons hz .nil)
  have hl : (us ++ [dv]).length = ps.length := by rw [← r'.length]; exact F.len _ _ _ _ q
  have hb' := hb s1 us I1.kIn hl
  refine wpAny_call (codeAny_mono (F.run X.A X.stack s1 H1 ⟨us, []⟩ (us ++ [dv]) (vs ++ [z]) Q _ gd hr I1.env0 hb' r' q) fun r s' hq => ?_)
  cases r with
  | error e => exact tk e s' (XE.of_call I1 (fun _ _ _ h => h) hq)
  | ok fl =>
    cases fl with
    | ret u => exact I1.after hq
    | next => exact False.elim hq
    | brk => exact False.elim hq
    | cont => exact False.elim hq
theorem patch_len : ∀ (br : List Nat) (es : IEs) (ds : List PyData) (ρ : Env), (patch br es ds ρ).length = ds.length
  | [], _, _, _ => rfl
  | i :: is, es, ds, ρ => by
    unfold patch
    split
    · rw [List.length_set, patch_len is]
    · exact patch_len is es ds ρ
theorem patch_out {es : IEs} {ds : List PyData} {ρ : Env} {k : Nat} : ∀ {br : List Nat}, k ∉ br → (patch br es ds ρ)[k]? = ds[k]?
  | [], _ => rfl
  | i :: is, h => by
    have h1 : i ≠ k := fun z => h (by rw [z]; exact List.mem_cons_self)
    have h2 : k ∉ is := fun z => h (List.mem_cons_of_mem _ z)
    unfold patch
    split
    · rw [List.getElem?_set_ne h1, patch_out h2]
    · exact patch_out h2
theorem patch_in {es : IEs} {ds : List PyData} {ρ : Env} {k j : Nat} (hj : argV es k = some j) (hk : k < ds.length) : ∀ {br : List Nat}, k ∈ br → (patch br es ds ρ)[k]? = some ((ρ[j]?.join).getD .none)
  | [], h => by cases h
  | i :: is, h => by
    by_cases e : i = k
    · subst e
      unfold patch
      rw [hj]
      show ((patch is es ds ρ).set i ((ρ[j]?.join).getD .none))[i]? = _
      rw [List.getElem?_set_self (by rw [patch_len]; exact hk)]
    · have h2 : k ∈ is := (List.mem_cons.mp h).resolve_left fun z => e z.symm
      unfold patch
      split
      · rw [List.getElem?_set_ne e, patch_in hj hk h2]
      · exact patch_in hj hk h2
theorem setOut_len : ∀ (rs : List Nat) (os : List PyData) (ρ : Env), (setOut rs os ρ).length = ρ.length
  | [], _, _ => rfl
  | _ :: _, [], _ => rfl
  | i :: is, d :: ds, ρ => by
    show (setOut is ds (ρ.set i (some d))).length = _
    rw [setOut_len is ds, List.length_set]
theorem setOut_ne {j : Nat} : ∀ {rs : List Nat} {os : List PyData} {ρ : Env}, j ∉ rs → (setOut rs os ρ)[j]? = ρ[j]?
  | [], _, _, _ => rfl
  | _ :: _, [], _, _ => rfl
  | i :: is, d :: ds, ρ, h => by
    show (setOut is ds (ρ.set i (some d)))[j]? = _
    rw [setOut_ne fun z => h (List.mem_cons_of_mem _ z), List.getElem?_set_ne fun z => h (by rw [z]; exact List.mem_cons_self)]
theorem setOut_at {j : Nat} {d : PyData} : ∀ {rs : List Nat} {os : List PyData} {ρ : Env} {k : Nat}, rs.Nodup → rs[k]? = some j → os[k]? = some d → j < ρ.length → (setOut rs os ρ)[j]? = some (some d)
  | [], _, _, k, _, e, _, _ => by cases e
  | _ :: _, [], _, k, _, _, e, _ => by cases e
  | i :: is, d' :: ds, ρ, k, nd, e1, e2, hl => by
    obtain ⟨n1, n2⟩ := List.nodup_cons.mp nd
    show (setOut is ds (ρ.set i (some d')))[j]? = _
    cases k with
    | zero =>
      cases e1; cases e2
      rw [setOut_ne n1, List.getElem?_set_self hl]
    | succ k => exact setOut_at n2 e1 e2 (by rw [List.length_set]; exact hl)
section
variable {K : PySem.W.Frag} {Z : Zone} {G : List Nat} {ρ : Env} {σ : L2.St} {H H' : Hp}
/-- behind a call that changed the lists of ints in the slots rs -/
theorem Rep.called (R : Rep K Z G ρ σ H) {rs : List Nat} {os : List PyData} (hs : subL rs G = true) (nd : rs.Nodup) (hl : os.length = rs.length) (ho : ∀ (k j : Nat) (p : Addr), rs[k]? = some j → At σ j p → ∃ ns : List Int, os[k]? = some (PyData.list (ns.map .int)) ∧ H' p = some (.lst (ns.map V.int)))
    (kp : Kp rs σ H H') (dom : ∀ a, Z.M a → ∃ o, H' a = some o) : Rep K Z G (setOut rs os ρ) σ H' := by
  have kA : KeepA (Av Z G [] σ) H H' := kp.keepA fun i hi => ⟨subL_of hs i hi, by simp⟩
  refine ⟨by rw [setOut_len]; exact R.len, fun j d e n => ?_, fun j g => ?_, R.dis, R.m0, R.fr0, R.byr, fun a o e n => ?_, dom⟩
  · rw [setOut_ne fun z => n (subL_of hs j z)] at e
    obtain ⟨v, e1, r⟩ := R.val j d e n
    exact ⟨v, e1, RepD.keep kA _ _ r⟩
  · obtain ⟨p, xs, vs, e1, q, e2, r⟩ := R.own j g
    by_cases h : j ∈ rs
    · obtain ⟨k, hk⟩ := List.getElem?_of_mem h
      obtain ⟨ns, e3, e4⟩ := ho k j p hk q
      have hlt : j < ρ.length := by
        rcases Nat.lt_or_ge j ρ.length with z | z
        · exact z
        · rw [List.getElem?_eq_none z] at e1; cases e1
      exact ⟨p, _, _, setOut_at nd hk e3 hlt, q, e4, RepA.ofInts ns⟩
    · refine ⟨p, xs, vs, by rw [setOut_ne h]; exact e1, q, kp p _ e2 fun i hi a => ?_, RepA.keep kA _ _ r⟩
      exact h (R.dis j i p g (subL_of hs i hi) q a ▸ hi)
  · refine kp a o (R.keep a o e n) fun i hi q => ?_
    rcases R.fr0 i a (subL_of hs i hi) q with z | z
    · rw [z] at e; cases e
    · exact n i z
end
section
variable {Γ : List Callee} {ER : ERel} {S : SC} {W : WX} {X : Cx} {G : List Nat}
theorem argV_F : ∀ {es : IEs} {k j : Nat}, argV es k = some j → ∃ f, (esF S.sg G es)[k]? = some f ∧ f.vr = some j
  | .nil, _, _, h => by cases h
  | .cons a es, 0, j, h => by
    cases a with
    | v i =>
      have : i = j := Option.some.inj h
      subst this
      exact ⟨_, rfl, rfl⟩
    | _ => cases h
  | .cons a es, k + 1, j, h => by
    have h' : argV es k = some j := by
      cases a <;> exact h
    obtain ⟨f, e1, e2⟩ := argV_F h'
    exact ⟨f, e1, e2⟩
theorem infA_al : ∀ {es : IEs} {br : List Nat} {n k : Nat} {f : Inf}, (esF S.sg G es)[k]? = some f → n + k ∉ br → (∀ i ∈ f.al, i ∈ infA S.sg G br n es) ∧ ∀ i ∈ f.el, i ∈ infA S.sg G br n es
  | .nil, _, _, _, _, h, _ => by cases h
  | .cons a es, br, n, 0, f, h, hn => by
    cases h
    have e : infA S.sg G br n (.cons a es) = ((infE S.sg G a).al ++ (infE S.sg G a).el) ++ infA S.sg G br (n + 1) es := by
      show (if n ∈ br then [] else (infE S.sg G a).al ++ (infE S.sg G a).el) ++ infA S.sg G br (n + 1) es = _
      rw [if_neg (show ¬ n ∈ br from hn)]
    rw [e]
    exact ⟨fun i hi => List.mem_append_left _ (List.mem_append_left _ hi), fun i hi => List.mem_append_left _ (List.mem_append_right _ hi)⟩
  | .cons a es, br, n, k + 1, f, h, hn => by
    obtain ⟨h1, h2⟩ := infA_al (es := es) (br := br) (n := n + 1) (k := k) h (by rw [Nat.add_assoc, Nat.add_comm 1 k]; exact hn)
    exact ⟨fun i hi => List.mem_append_right _ (h1 i hi), fun i hi => List.mem_append_right _ (h2 i hi)⟩
theorem ref_at {es : IEs} : ∀ {br : List Nat}, (∀ i ∈ br, (argV es i).isSome = true) → ∀ k : Nat, (refArgs br es)[k]? = (br[k]?).bind (argV es)
  | [], _, k => by simp [refArgs]
  | i :: is, h, k => by
    have hi := h i List.mem_cons_self
    cases e : argV es i with
    | none => rw [e] at hi; cases hi
    | some j =>
      have e2 : refArgs (i :: is) es = j :: refArgs is es := by
        show (i :: is).filterMap (argV es) = _
        rw [List.filterMap_cons, e]
        rfl
      rw [e2]
      cases k with
      | zero => simp [e]
      | succ k =>
        rw [List.getElem?_cons_succ, List.getElem?_cons_succ]
        exact ref_at (fun i hi => h i (List.mem_cons_of_mem _ hi)) k
theorem ref_len {es : IEs} : ∀ {br : List Nat}, (∀ i ∈ br, (argV es i).isSome = true) → (refArgs br es).length = br.length
  | [], _ => rfl
  | i :: is, h => by
    have hi := h i List.mem_cons_self
    cases e : argV es i with
    | none => rw [e] at hi; cases hi
    | some j =>
      have e2 : refArgs (i :: is) es = j :: refArgs is es := by
        show (i :: is).filterMap (argV es) = _
        rw [List.filterMap_cons, e]
        rfl
      rw [e2, List.length_cons, List.length_cons, ref_len fun i hi => h i (List.mem_cons_of_mem _ hi)]
theorem s_call (C : CxOk Γ ER S W X) {f : Nat} {es : IEs} (hs : ∀ br, JRs Γ ER S W X G br 0 es) : JE Γ ER S W X G (.call f es) := by
  intro x h
  cases hf : S.sg[f]? with
  | none =>
    have h' : (match S.sg[f]? with
      | some s => kCallD S s (chkRs S G s.br 0 es) x && callB S G s es (infEs S.sg G es)
      | none => false) = true := h
    rw [hf] at h'
    cases h'
  | some s =>
    have h' : (kCallD S s (chkRs S G s.br 0 es) x && callB S G s es (infEs S.sg G es)) = true := by
      have h' : (match S.sg[f]? with
        | some s => kCallD S s (chkRs S G s.br 0 es) x && callB S G s es (infEs S.sg G es)
        | none => false) = true := h
      rw [hf] at h'
      exact h'
    have einf : infE S.sg G (.call f es) = { al := infA S.sg G s.br 0 es, el := infA S.sg G s.br 0 es, md := (infEs S.sg G es).md ++ refArgs s.br es, fr := s.fr, ls := s.fr } := by
      show (match S.sg[f]? with
        | some s => ({ al := infA S.sg G s.br 0 es, el := infA S.sg G s.br 0 es, md := (infEs S.sg G es).md ++ refArgs s.br es, fr := s.fr, ls := s.fr } : Inf)
        | none => {}) = _
      rw [hf]
    obtain ⟨g, hg, co⟩ := C.cal f s hf
    obtain ⟨k, fa, fd, ps, hm, hk, F, hr, hb⟩ := co.ex
    rw [einf]
    rw [Bool.and_eq_true] at h'
    obtain ⟨h1, h2⟩ := h'
    unfold callB at h2
    rw [Bool.and_eq_true, Bool.and_eq_true, Bool.and_eq_true, Bool.and_eq_true, Bool.and_eq_true, Bool.and_eq_true, List.all_eq_true] at h2
    obtain ⟨⟨⟨⟨⟨⟨c1, c2⟩, c3⟩, c4⟩, c5⟩, c6⟩, c7⟩ := h2
    have c2a : ∀ i ∈ s.br, (argV es i).isSome = true := fun i hi => (Bool.and_eq_true _ _ ▸ c2 i hi).1
    have c2b : ∀ i ∈ s.br, i < s.np := fun i hi => of_decide_eq_true (Bool.and_eq_true _ _ ▸ c2 i hi).2
    have nd : (refArgs s.br es).Nodup := of_decide_eq_true c4
    have ndb : s.br.Nodup := of_decide_eq_true c3
    have hnp : iesLen es = s.np := of_decide_eq_true c7
    have key : ∀ (σ : L2.St) (H : Hp) (Q : VK), tM X.K ER W G { al := infA S.sg G s.br 0 es, el := infA S.sg G s.br 0 es, md := (infEs S.sg G es).md ++ refArgs s.br es, fr := s.fr, ls := s.fr } (evE Γ (.call f es)) σ H Q →
        tRs X.K ER W G s.br 0 (esF S.sg G es) (infEs S.sg G es).md (evEs Γ es) σ H fun vs H1 => spG X.K ER s g.m vs H1 Q fun cls d H' => W cls d σ H' := by
      intro σ H Q hq
      obtain ⟨Z, ρ, R, w0⟩ := hq
      have w0' : Wp (ExW X.K ER W Z G σ) (fun p' => PostE X.K Z G { al := infA S.sg G s.br 0 es, el := infA S.sg G s.br 0 es, md := (infEs S.sg G es).md ++ refArgs s.br es, fr := s.fr, ls := s.fr } σ H p' Q) ((evEs Γ es ρ).bnd fun p => runC g (patch s.br es p.1 p.2) (refArgs s.br es) p.2) := by
        have w1 : Wp (ExW X.K ER W Z G σ) (fun p' => PostE X.K Z G { al := infA S.sg G s.br 0 es, el := infA S.sg G s.br 0 es, md := (infEs S.sg G es).md ++ refArgs s.br es, fr := s.fr, ls := s.fr } σ H p' Q) ((evEs Γ es ρ).bnd fun p => match Γ[f]? with
          | some g => runC g (patch g.br es p.1 p.2) (refArgs g.br es) p.2
          | none => .stuck) := w0
        rw [hg] at w1
        have w2 : Wp (ExW X.K ER W Z G σ) (fun p' => PostE X.K Z G { al := infA S.sg G s.br 0 es, el := infA S.sg G s.br 0 es, md := (infEs S.sg G es).md ++ refArgs s.br es, fr := s.fr, ls := s.fr } σ H p' Q) ((evEs Γ es ρ).bnd fun p => runC g (patch g.br es p.1 p.2) (refArgs g.br es) p.2) := w1
        rw [← co.br] at w2
        exact w2
      refine ⟨Z, ρ, R, (wp_bnd w0').mono fun q w1 vs H1 A R1 kp => ?_⟩
      have lds : q.1.length = s.np := by rw [A.ld, es_len, hnp]
      have lvs : vs.length = s.np := by rw [A.lv, es_len, hnp]
      -- the slots that the callee changes
      have slot : ∀ i ∈ s.br, ∃ j p xs ws, argV es i = some j ∧ j ∈ refArgs s.br es ∧ j ∈ G ∧ At σ j p ∧ vs[i]? = some (V.ref p) ∧ q.2[j]? = some (some (.list xs)) ∧ H1 p = some (.lst ws) ∧ RepA X.K (Av Z G [] σ) H1 xs ws := fun i hi => by
        cases e : argV es i with
        | none => have := c2a i hi; rw [e] at this; cases this
        | some j =>
          have hj : j ∈ refArgs s.br es := List.mem_filterMap.mpr ⟨i, hi, e⟩
          have hG := subL_of c6 j hj
          obtain ⟨p, xs, ws, e1, a1, e2, r⟩ := R1.own j hG
          obtain ⟨f', e3, e4⟩ := argV_F (S := S) (G := G) e
          have hlt : i < vs.length := by rw [lvs]; exact c2b i hi
          have hld : i < q.1.length := by rw [lds]; exact c2b i hi
          have hv := (A.at_ i f' _ _ e3 (List.getElem?_eq_getElem hld) (List.getElem?_eq_getElem hlt)).2 j e4
          have : vs[i] = V.ref p := by
            have z := hv.symm.trans a1
            simpa using z
          exact ⟨j, p, xs, ws, rfl, hj, hG, a1, by rw [List.getElem?_eq_getElem hlt, this], e1, e2, r⟩
      have brAt : ∀ a, BrAt s.br vs a ↔ ∃ j ∈ refArgs s.br es, At σ j a := fun a => by
        constructor
        · rintro ⟨i, hi, e⟩
          obtain ⟨j, p, xs, ws, e1, hj, _, a1, e2, _⟩ := slot i hi
          rw [e] at e2
          cases e2
          exact ⟨j, hj, a1⟩
        · rintro ⟨j, hj, e⟩
          obtain ⟨i, hi, e1⟩ := List.mem_filterMap.mp hj
          obtain ⟨j', p, xs, ws, e2, _, _, a1, e3, _⟩ := slot i hi
          rw [e1] at e2
          cases e2
          obtain rfl := at_inj a1 e
          exact ⟨i, hi, e3⟩
      have inM : ∀ j ∈ refArgs s.br es, ∀ p, At σ j p → Av Z G (infA S.sg G s.br 0 es) σ p := fun j hj p a => .inr ⟨j, subL_of c6 j hj, dis_of c5 j hj, a⟩
      have pre : CallPre X.K s (Av Z G (infA S.sg G s.br 0 es) σ) H1 (patch s.br es q.1 q.2) vs := by
        refine ⟨lvs, by rw [patch_len, lds], fun a z => R1.there z, fun i d v e1 e2 hn => ?_, fun i hi => ?_, fun i j p hi hj e1 e2 => ?_⟩
        · rw [patch_out hn] at e1
          have hi : i < (esF S.sg G es).length := by
            rw [← A.ld]
            rcases Nat.lt_or_ge i q.1.length with z | z
            · exact z
            · rw [List.getElem?_eq_none z] at e1; cases e1
          have ef := List.getElem?_eq_getElem hi
          obtain ⟨a1, a2⟩ := infA_al (br := s.br) (n := 0) ef (by rw [Nat.zero_add]; exact hn)
          exact ((A.at_ i _ d v ef e1 e2).1 (by rw [Nat.zero_add]; exact hn)).toD (fun _ => Av.mono a1) fun _ => Av.mono a2
        · obtain ⟨j, p, xs, ws, e1, hj, hG, a1, e2, e3, e4, r⟩ := slot i hi
          refine ⟨p, xs, ws, ?_, e2, inM j hj p a1, e4, RepA.mono (fun _ => Av.mono (by simp)) _ _ r⟩
          rw [patch_in e1 (by rw [lds]; exact c2b i hi) hi, e3]
          rfl
        · obtain ⟨j1, p1, _, _, f1, g1, h1, a1, f2, _⟩ := slot i hi
          obtain ⟨j2, p2, _, _, f3, g2, h2, a2, f4, _⟩ := slot j hj
          rw [e1] at f2
          cases f2
          rw [e2] at f4
          cases f4
          have ej := R1.dis j1 j2 _ h1 h2 a1 a2
          subst ej
          obtain ⟨x1, hx1⟩ := List.getElem?_of_mem hi
          obtain ⟨x2, hx2⟩ := List.getElem?_of_mem hj
          have y1 := ref_at c2a x1
          have y2 := ref_at c2a x2
          rw [hx1] at y1
          rw [hx2] at y2
          have y1' : (refArgs s.br es)[x1]? = some j1 := y1.trans f1
          have y2' : (refArgs s.br es)[x2]? = some j1 := y2.trans f3
          obtain ⟨l1, z1⟩ := List.getElem?_eq_some_iff.mp y1'
          obtain ⟨l2, z2⟩ := List.getElem?_eq_some_iff.mp y2'
          have : x1 = x2 := (List.getElem_inj nd).mp (z1.trans z2.symm)
          subst this
          rw [hx1] at hx2
          cases hx2
          rfl
      refine ⟨Av Z G (infA S.sg G s.br 0 es) σ, patch s.br es q.1 q.2, pre, ?_⟩
      unfold runC at w1
      cases hmr : g.m (patch s.br es q.1 q.2) with
      | stuck => rw [hmr] at w1; exact w1.elim
      | exc c xs ρ' =>
        rw [hmr] at w1
        dsimp only at w1
        by_cases hbr : g.br = []
        · rw [if_pos hbr] at w1
          intro cls dx H' er kp'
          refine w1 cls dx H' er (R1.grow fun a o e => kp' a o e ?_)
          rintro ⟨i, hi, _⟩
          rw [co.br, hbr] at hi
          cases hi
        · rw [if_neg hbr] at w1
          exact w1.elim
      | ok p' =>
        rw [hmr] at w1
        intro v H' P
        have kp' : Kp (refArgs s.br es) σ H1 H' := fun a o e n => P.keep a o e fun z => by
          obtain ⟨j, hj, a1⟩ := (brAt a).mp z
          exact n j hj a1
        have R' : Rep X.K Z G (setOut (refArgs s.br es) p'.2 q.2) σ H' := by
          refine R1.called c6 nd (by rw [P.len, ref_len c2a]) (fun k j p e a => ?_) kp' fun a z => P.dom a (.inl z)
          rw [ref_at c2a] at e
          cases eb : s.br[k]? with
          | none => rw [eb] at e; cases e
          | some i =>
            rw [eb] at e
            obtain ⟨j', p2, _, _, f1, _, _, a1, f2, _⟩ := slot i (List.mem_of_getElem? eb)
            have : j' = j := by
              have z := f1.symm.trans e
              simpa using z
            subst this
            obtain rfl := at_inj a1 a
            exact P.out k i _ eb f2
        refine w1 v H' (RepT.ofD P.val) (fun z => ?_) (fun z => ?_) nofun R' (kp.left.trans kp'.right)
        · obtain ⟨p2, xs, ws, e1, e2, e3, e4, r⟩ := P.fr z
          refine ⟨⟨p2, xs, ws, e1, e2, R1.older kp c1 e3, e4, r⟩, fun q' eq => ?_⟩
          rw [e2] at eq
          cases eq
          have g2 := grow_upd (o := .lst ws) e3
          have Rp : Rep X.K (Z.plus p2) G q.2 σ (upd H1 p2 (.lst ws)) := R1.enterG e3 g2 ⟨_, upd_same⟩
          refine Rp.called c6 nd (by rw [P.len, ref_len c2a]) (fun k j p e a => ?_) (fun a o e n => ?_) fun a z => ?_
          · rw [ref_at c2a] at e
            cases eb : s.br[k]? with
            | none => rw [eb] at e; cases e
            | some i =>
              rw [eb] at e
              obtain ⟨j', p3, _, _, f1, _, _, a1, f2, _⟩ := slot i (List.mem_of_getElem? eb)
              have : j' = j := by
                have z := f1.symm.trans e
                simpa using z
              subst this
              obtain rfl := at_inj a1 a
              exact P.out k i _ eb f2
          · by_cases h : a = p2
            · rw [h, upd_same] at e
              rw [h, ← e]
              exact e4
            · rw [upd_ne h] at e
              exact kp' a o e n
          · rcases z with z | z
            · exact P.dom a (.inl z)
            · rw [z]
              exact ⟨_, e4⟩
        · obtain ⟨p2, xs, ws, e1, _⟩ := P.fr z
          exact ⟨xs, e1⟩
    unfold kCallD at h1
    split at h1
    · rename_i y p zs pos
      simp only [Bool.and_eq_true] at h1
      obtain ⟨⟨⟨⟨k0, k1⟩, k2⟩, k3⟩, k4⟩ := h1
      obtain rfl := beq_iff_eq.mp k1
      rw [Option.isNone_iff_eq_none.mp k0] at hb
      obtain ⟨pl, le⟩ := rs_plain k4
      cases zs with
      | cons z zs =>
        rw [List.all_cons, Bool.and_eq_true] at pl
        exact (pe_callG F C.gd hr (C.glo k3) hm hk hb C.tk (hs _ _ k4) (okN_of k2).1 (star_plain pl.1) (star_any pl.2)).imp key
      | nil =>
        cases es with
        | cons a es => cases le
        | nil =>
          refine (pe_callG0 F C.gd hr (C.glo k3) hm hk hb C.tk (okN_of k2).1).imp fun σ H Q hq => ?_
          obtain ⟨Z, ρ, R, w⟩ := key σ H Q hq
          have w' : ∀ vs H', ArgsR X.K Z G σ H' s.br 0 [] [] vs → Rep X.K Z G ρ σ H' → Kp [] σ H H' → spG X.K ER s g.m vs H' Q fun cls d H' => W cls d σ H' := w
          exact w' [] H ⟨rfl, rfl, fun k f d v e => by cases e⟩ R Kp.refl
    · cases h1
theorem isLit_of {c : Lit} {k : IE} (h : isLitE c k = true) : k = .lit c := by
  cases k with
  | lit c' => rw [litE_of (show litE c c' = true from h)]
  | _ => cases h
theorem s_callk (C : CxOk Γ ER S W X) {f : Nat} {es : IEs} {k : IE} (hs : JEs Γ ER S W X G es) (hk : JE Γ ER S W X G k) : JE Γ ER S W X G (.callk f es k) := by
  intro x h
  cases hf : S.sg[f]? with
  | none =>
    have h' : (match S.sg[f]? with
      | some s => (match s.kw with
        | some kw => (kKw S s.name kw.1 (chkEs S G es) (chkE S G k) x || (isLitE kw.2 k && kCall S s.name (chkEs S G es) x)) && s.br.isEmpty && decide (iesLen es + 1 = s.np) && aft G (infEs S.sg G es) (infE S.sg G k)
        | none => false)
      | none => false) = true := h
    rw [hf] at h'
    cases h'
  | some s =>
    have h' : (match s.kw with
        | some kw => (kKw S s.name kw.1 (chkEs S G es) (chkE S G k) x || (isLitE kw.2 k && kCall S s.name (chkEs S G es) x)) && s.br.isEmpty && decide (iesLen es + 1 = s.np) && aft G (infEs S.sg G es) (infE S.sg G k)
        | none => false) = true := by
      have h' : (match S.sg[f]? with
        | some s => (match s.kw with
          | some kw => (kKw S s.name kw.1 (chkEs S G es) (chkE S G k) x || (isLitE kw.2 k && kCall S s.name (chkEs S G es) x)) && s.br.isEmpty && decide (iesLen es + 1 = s.np) && aft G (infEs S.sg G es) (infE S.sg G k)
          | none => false)
        | none => false) = true := h
      rw [hf] at h'
      exact h'
    obtain ⟨g, hg, co⟩ := C.cal f s hf
    obtain ⟨kk, fa, fd, ps, hm, hkp, F, hr, hb⟩ := co.ex
    cases hkw : s.kw with
    | none =>
      rw [hkw] at h'
      cases h'
    | some kw =>
      rw [hkw] at h' hb
      have hb : KwOk X.K fd ps kw.1 kw.2 := hb
      simp only [Bool.and_eq_true, decide_eq_true_eq] at h'
      obtain ⟨⟨⟨h1, h2⟩, h3⟩, h4⟩ := h'
      have hbr : s.br = [] := List.isEmpty_iff.mp h2
      have gbr : g.br = [] := by rw [← co.br]; exact hbr
      obtain ⟨m1, m2, m3⟩ := aft_of h4
      have einf : infE S.sg G (.callk f es k) = { al := (infEs S.sg G es).al ++ ((infE S.sg G k).al ++ (infE S.sg G k).el), el := (infEs S.sg G es).al ++ ((infE S.sg G k).al ++ (infE S.sg G k).el), md := (infEs S.sg G es).md ++ (infE S.sg G k).md, fr := s.fr, ls := s.fr } := by
        show (match S.sg[f]? with
          | some s => ({ al := (infEs S.sg G es).al ++ ((infE S.sg G k).al ++ (infE S.sg G k).el), el := (infEs S.sg G es).al ++ ((infE S.sg G k).al ++ (infE S.sg G k).el), md := (infEs S.sg G es).md ++ (infE S.sg G k).md, fr := s.fr, ls := s.fr } : Inf)
          | none => {}) = _
        rw [hf]
      rw [einf]
      have key : ∀ (σ : L2.St) (H : Hp) (Q : VK), tM X.K ER W G { al := (infEs S.sg G es).al ++ ((infE S.sg G k).al ++ (infE S.sg G k).el), el := (infEs S.sg G es).al ++ ((infE S.sg G k).al ++ (infE S.sg G k).el), md := (infEs S.sg G es).md ++ (infE S.sg G k).md, fr := s.fr, ls := s.fr } (evE Γ (.callk f es k)) σ H Q →
          tMs X.K ER W G (esF S.sg G es) (infEs S.sg G es).md (evEs Γ es) σ H fun vs H1 => tM X.K ER W G (infE S.sg G k) (evE Γ k) σ H1 fun v H2 => spG X.K ER s g.m (vs ++ [v]) H2 Q fun cls d H' => W cls d σ H' := by
        intro σ H Q hq
        obtain ⟨Z, ρ, R, w0⟩ := hq
        have w0' : Wp (ExW X.K ER W Z G σ) (fun p' => PostE X.K Z G { al := (infEs S.sg G es).al ++ ((infE S.sg G k).al ++ (infE S.sg G k).el), el := (infEs S.sg G es).al ++ ((infE S.sg G k).al ++ (infE S.sg G k).el), md := (infEs S.sg G es).md ++ (infE S.sg G k).md, fr := s.fr, ls := s.fr } σ H p' Q) ((evEs Γ es ρ).bnd fun p => (evE Γ k p.2).bnd fun q => match Γ[f]? with
          | some g => if g.br = [] then runC g (p.1 ++ [q.1]) [] q.2 else .stuck
          | none => .stuck) := w0
        rw [hg] at w0'
        have w1' : Wp (ExW X.K ER W Z G σ) (fun p' => PostE X.K Z G { al := (infEs S.sg G es).al ++ ((infE S.sg G k).al ++ (infE S.sg G k).el), el := (infEs S.sg G es).al ++ ((infE S.sg G k).al ++ (infE S.sg G k).el), md := (infEs S.sg G es).md ++ (infE S.sg G k).md, fr := s.fr, ls := s.fr } σ H p' Q) ((evEs Γ es ρ).bnd fun p => (evE Γ k p.2).bnd fun q => if g.br = [] then runC g (p.1 ++ [q.1]) [] q.2 else .stuck) := w0'
        refine ⟨Z, ρ, R, (wp_bnd w1').mono fun p w1 vs H1 A R1 k1 => ?_⟩
        refine ⟨Z, p.2, R1, (wp_bnd w1).mono fun q w2 v H2 rv _ _ _ R2 k2 => ?_⟩
        rw [if_pos gbr] at w2
        have lds : (p.1 ++ [q.1]).length = s.np := by rw [List.length_append, A.ld, es_len]; exact h3
        have lvs : (vs ++ [v]).length = s.np := by rw [List.length_append, A.lv, es_len]; exact h3
        have ra := RepA.keep (H' := H2) (k2.av (Z := Z) m2 (dis_l m3)) _ _ A.repA
        have rall : RepA X.K (Av Z G ((infEs S.sg G es).al ++ ((infE S.sg G k).al ++ (infE S.sg G k).el)) σ) H2 (p.1 ++ [q.1]) (vs ++ [v]) := by
          refine (RepA.mono (fun a => Av.mono fun i hi => List.mem_append_left _ hi) _ _ ra).append (RepA.cons (rv.toD (fun a => Av.mono fun i hi => ?_) fun a => Av.mono fun i hi => ?_) RepA.nil)
          · exact List.mem_append_right _ (List.mem_append_left _ hi)
          · exact List.mem_append_right _ (List.mem_append_right _ hi)
        have noBr : ∀ a, ¬ BrAt s.br (vs ++ [v]) a := fun a z => by
          obtain ⟨i, hi, _⟩ := z
          rw [hbr] at hi
          cases hi
        refine ⟨Av Z G ((infEs S.sg G es).al ++ ((infE S.sg G k).al ++ (infE S.sg G k).el)) σ, p.1 ++ [q.1], ⟨lvs, lds, fun a z => R2.there z, fun i d u e1 e2 _ => ?_, fun i hi => (by rw [hbr] at hi; cases hi), fun i j p hi => (by rw [hbr] at hi; cases hi)⟩, ?_⟩
        · obtain ⟨u', e3, r⟩ := rall.get e1
          rw [e2] at e3
          cases e3
          exact r
        · have k12 : Kp ((infEs S.sg G es).md ++ (infE S.sg G k).md) σ H H2 := k1.left.trans k2.right
          have hG : subL ((infEs S.sg G es).md ++ (infE S.sg G k).md) G = true := List.all_eq_true.mpr fun i hi => by
            rcases List.mem_append.mp hi with z | z
            · simpa using subL_of m1 i z
            · simpa using subL_of m2 i z
          unfold runC at w2
          cases hmr : g.m (p.1 ++ [q.1]) with
          | stuck => rw [hmr] at w2; exact w2.elim
          | exc c xs ρ' =>
            rw [hmr] at w2
            dsimp only at w2
            rw [if_pos gbr] at w2
            exact fun cls dx H' er kp' => w2 cls dx H' er (R2.grow fun a o e => kp' a o e (noBr a))
          | ok p' =>
            rw [hmr] at w2
            intro u H' P
            have gr : ∀ a o, H2 a = some o → H' a = some o := fun a o e => P.keep a o e (noBr a)
            refine w2 u H' (RepT.ofD P.val) (fun z => ?_) (fun z => ?_) nofun (R2.grow gr) (k12.trans (Kp.grow gr))
            · obtain ⟨p2, xs, ws, e1, e2, e3, e4, r⟩ := P.fr z
              refine ⟨⟨p2, xs, ws, e1, e2, R2.older k12 hG e3, e4, r⟩, fun q' eq => ?_⟩
              rw [e2] at eq
              cases eq
              exact R2.enterG e3 gr ⟨_, e4⟩
            · obtain ⟨p2, xs, ws, e1, _⟩ := P.fr z
              exact ⟨xs, e1⟩
      rw [Bool.or_eq_true] at h1
      rcases h1 with h1 | h1
      · unfold kKw at h1
        split at h1
        · rename_i y p z zs w e kp pos
          simp only [Bool.and_eq_true] at h1
          obtain ⟨⟨⟨⟨⟨k1, k2⟩, k3⟩, k4⟩, k5⟩, k6⟩ := h1
          obtain rfl := beq_iff_eq.mp k1
          have ew : kw.1 = w := beq_iff_eq.mp k4
          obtain ⟨pl, _⟩ := es_plain k6
          have pl0 := pl
          rw [List.all_cons, Bool.and_eq_true] at pl
          rw [← ew]
          exact (pe_callGK F C.gd hr (C.glo k3) hm hkp hb.kw C.tk (hs _ k6) (hk _ k5) (okN_of k2).1 (star_plain pl.1) (star_any pl0)).imp key
        · cases h1
      · rw [Bool.and_eq_true] at h1
        obtain ⟨h1, h5⟩ := h1
        obtain rfl := isLit_of h1
        unfold kCall at h5
        split at h5
        · rename_i y p z zs pos
          simp only [Bool.and_eq_true] at h5
          obtain ⟨⟨⟨k1, k2⟩, k3⟩, k4⟩ := h5
          obtain rfl := beq_iff_eq.mp k1
          obtain ⟨pl, _⟩ := es_plain k4
          rw [List.all_cons, Bool.and_eq_true] at pl
          obtain ⟨dv, hz, hbd⟩ := hb.df
          refine (pe_callGD F C.gd hr (C.glo k3) hm hkp hz hbd C.tk (hs _ k4) (okN_of k2).1 (star_plain pl.1) (star_any pl.2)).imp fun σ H Q hq => ?_
          obtain ⟨Z, ρ, R, w⟩ := key σ H Q hq
          exact ⟨Z, ρ, R, w.mono fun p h vs H' A R' k' => m_lit (h vs H' A R' k')⟩
        · cases h5
end
end Hx

set_option Elab.async false
set_option linter.all false
set_option maxRecDepth 100000
set_option maxHeartbeats 4000000
/-! H16: targets; what is gone over; what a comprehension's block and a loop's body know. -/
namespace L2
open PySem PySem.Spec PyProof.Rows
theorem PI.imp {X : Cx} {tg e : Expr} {t t' : TI} (h : PI X tg e t') (k : ∀ σ H R, t σ H R → t' σ H R) : PI X tg e t := ⟨fun pins s σ H R I q => h.run pins s σ H R I (k σ H R q)⟩
theorem PG.imp {X : Cx} {e : Expr} {t t' : TG} (h : PG X e t') (k : ∀ v σ H R, t v σ H R → t' v σ H R) : PG X e t := ⟨fun pins s σ H v u Q I r q => h.run pins s σ H v u Q I r (k v σ H Q q)⟩
def iSeq (K : PySem.W.Frag) (tl : TE) : TI := fun σ H R => tl σ H fun x H1 => ∃ a xs, x = .ref a ∧ ((SqL K H1 a xs ∧ R (Itl K a) H1) ∨ (SqT K H1 a xs ∧ R (Itt K a) H1))
/-- over a list or a tuple -/
theorem pi_seq {X : Cx} {tg l : Expr} {tl : TE} (hl : PE X l tl) : PI X tg l (iSeq X.K tl) := by
  refine ⟨fun pins s σ H R I h => ?_⟩
  refine thn (hl.run pins s σ H _ I h) fun v s1 ⟨x, H1, I1, r1, q1⟩ => ?_
  obtain ⟨a, xs, e, q⟩ := q1
  subst e
  cases r1
  rcases q with ⟨hq, q⟩ | ⟨hq, q⟩
  · obtain ⟨its, rv, p, hz⟩ := I1.list hq
    refine wpAny_pyIter_list p.isList ?_
    refine ⟨s1.heap.objs.size, [s1.heap.objs.size], _, _, H1, rfl, I1.kept (t' := s1.toks) fun b o e => Heap.get?_push_of_some _ e, turn_list a _, ⟨_, Heap.get?_push_size _ rfl, rfl, rfl⟩, fun b hb => ?_, q⟩
    have e : b = s1.heap.objs.size := by simpa using hb
    subst e
    exact I1.fpOk (Nat.le_refl _) (I1.hok.fresh (Nat.le_refl _))
  · obtain ⟨its, rv, p, hz⟩ := I1.tuple hq
    refine wpAny_pyIter_tuple (show s1.heap.IsTuple a its.toArray from p) ?_
    refine ⟨s1.heap.objs.size, [s1.heap.objs.size], _, _, H1, rfl, I1.kept (t' := s1.toks) fun b o e => Heap.get?_push_of_some _ e, turn_tuple a _, ⟨_, Heap.get?_push_size _ rfl, rfl, rfl⟩, fun b hb => ?_, q⟩
    have e : b = s1.heap.objs.size := by simpa using hb
    subst e
    exact I1.fpOk (Nat.le_refl _) (I1.hok.fresh (Nat.le_refl _))
end L2
namespace Hx
open PySem PySem.Spec PyProof.Rows L2
section
variable {K : PySem.W.Frag} {A A' : Addr → Prop} {H H' : Hp}
/-- what H knows outside A stands in H', outside A' -/
def ShiftA (A A' : Addr → Prop) (H H' : Hp) : Prop := ∀ a o, H a = some o → ¬ A a → H' a = some o ∧ ¬ A' a
theorem ShiftA.rd (k : ShiftA A A' H H') {a : Addr} {u : HO} (h : Rd H a u ∧ ¬ A a) : Rd H' a u ∧ ¬ A' a := by
  obtain ⟨h | ⟨o, h⟩, n⟩ := h
  · obtain ⟨h1, h2⟩ := k a _ h n
    exact ⟨.inl h1, h2⟩
  · obtain ⟨h1, h2⟩ := k a _ h n
    exact ⟨.inr ⟨o, h1⟩, h2⟩
mutual
theorem RepD.shift (k : ShiftA A A' H H') : ∀ (d : PyData) (v : V), RepD K A H d v → RepD K A' H' d v
  | .none, _, h => by simpa only [RepD] using h
  | .bool _, _, h => by simpa only [RepD] using h
  | .int _, _, h => by simpa only [RepD] using h
  | .str _, _, h => by simpa only [RepD] using h
  | .list ds, v, h => by
    simp only [RepD] at h ⊢
    obtain ⟨a, vs, e, s, r⟩ := h
    exact ⟨a, vs, e, s.imp k.rd id, RepA.shift k ds vs r⟩
  | .tuple ds, v, h => by
    simp only [RepD] at h ⊢
    obtain ⟨a, vs, e, s, r⟩ := h
    exact ⟨a, vs, e, s.imp (fun z => z.1.elim fun o y => ⟨⟨o, y.1, (k a _ y.2 z.2).1⟩, (k a _ y.2 z.2).2⟩) id, RepA.shift k ds vs r⟩
  | .dict kvs, v, h => by
    simp only [RepD] at h ⊢
    obtain ⟨a, vs, e, s, r⟩ := h
    exact ⟨a, vs, e, k.rd s, RepK.shift k kvs vs r⟩
theorem RepA.shift (k : ShiftA A A' H H') : ∀ (ds : List PyData) (vs : List V), RepA K A H ds vs → RepA K A' H' ds vs
  | [], _, h => by simpa only [RepA] using h
  | d :: ds, vs, h => by
    simp only [RepA] at h ⊢
    obtain ⟨v, r, e, h1, h2⟩ := h
    exact ⟨v, r, e, RepD.shift k d v h1, RepA.shift k ds r h2⟩
theorem RepK.shift (k : ShiftA A A' H H') : ∀ (kvs : List (PyData × PyData)) (vs : List (Key × V)), RepK K A H kvs vs → RepK K A' H' kvs vs
  | [], _, h => by simpa only [RepK] using h
  | (q, d) :: kvs, vs, h => by
    simp only [RepK] at h ⊢
    obtain ⟨kk, v, r, e, h0, h1, h2⟩ := h
    exact ⟨kk, v, r, e, h0, RepD.shift k d v h1, RepK.shift k kvs r h2⟩
end
end
/-! ### slots -/
theorem wipe_len (ρ : Env) : ∀ is : List Nat, (wipe ρ is).length = ρ.length
  | [] => rfl
  | i :: is => by
    show ((wipe ρ is).set i none).length = _
    rw [List.length_set, wipe_len ρ is]
theorem wipe_out' {ρ : Env} {i : Nat} : ∀ {is : List Nat}, i ∉ is → (wipe ρ is)[i]? = ρ[i]?
  | [], _ => rfl
  | j :: is, h => by
    show ((wipe ρ is).set j none)[i]? = _
    rw [List.getElem?_set_ne fun z => h (by rw [z]; exact List.mem_cons_self), wipe_out' fun z => h (List.mem_cons_of_mem _ z)]
theorem wipe_in' {ρ : Env} {i : Nat} {d : PyData} : ∀ {is : List Nat}, (wipe ρ is)[i]? = some (some d) → i ∉ is
  | [], _ => by simp
  | j :: is, h => by
    by_cases hi : j = i
    · subst hi
      have h' : ((wipe ρ is).set j none)[j]? = some (some d) := h
      by_cases hv : j < (wipe ρ is).length
      · rw [List.getElem?_set_self hv] at h'; cases h'
      · rw [List.getElem?_eq_none (by simpa using hv)] at h'; cases h'
    · have h' : ((wipe ρ is).set j none)[i]? = some (some d) := h
      rw [List.getElem?_set_ne hi] at h'
      simp only [List.mem_cons, not_or]
      exact ⟨fun e => hi e.symm, wipe_in' h'⟩
theorem back_len (ρ ρ' : Env) : ∀ is : List Nat, (back ρ ρ' is).length = ρ'.length
  | [] => rfl
  | i :: is => by
    show ((back ρ ρ' is).set i _).length = _
    rw [List.length_set, back_len ρ ρ' is]
theorem back_out {ρ ρ' : Env} {i : Nat} : ∀ {is : List Nat}, i ∉ is → (back ρ ρ' is)[i]? = ρ'[i]?
  | [], _ => rfl
  | j :: is, h => by
    show ((back ρ ρ' is).set j _)[i]? = _
    rw [List.getElem?_set_ne fun z => h (by rw [z]; exact List.mem_cons_self), back_out fun z => h (List.mem_cons_of_mem _ z)]
theorem back_in {ρ ρ' : Env} (hl : ρ.length = ρ'.length) {i : Nat} : ∀ {is : List Nat}, i ∈ is → (back ρ ρ' is)[i]? = ρ[i]?
  | [], h => by cases h
  | j :: is, h => by
    by_cases hi : j = i
    · subst hi
      show ((back ρ ρ' is).set j (ρ[j]?.getD none))[j]? = _
      by_cases hv : j < ρ'.length
      · rw [List.getElem?_set_self (by rw [back_len]; exact hv), List.getElem?_eq_getElem (by rw [hl]; exact hv)]
        rfl
      · rw [List.getElem?_eq_none (by rw [List.length_set, back_len]; omega), List.getElem?_eq_none (by omega)]
    · show ((back ρ ρ' is).set j _)[i]? = _
      rw [List.getElem?_set_ne hi, back_in hl ((List.mem_cons.mp h).resolve_left fun z => hi z.symm)]
/-- the slots of G hold the same -/
def SameG (G : List Nat) (σ σ' : L2.St) : Prop := ∀ i ∈ G, σ'[i]? = σ[i]?
theorem SameG.at {G : List Nat} {σ σ' : L2.St} (h : SameG G σ σ') {i : Nat} (hi : i ∈ G) {a : Addr} : At σ' i a ↔ At σ i a := by
  unfold At
  rw [h i hi]
theorem SameG.av {Z : Zone} {G al : List Nat} {σ σ' : L2.St} (h : SameG G σ σ') {a : Addr} : Av Z G al σ' a ↔ Av Z G al σ a := by
  constructor
  · rintro (z | ⟨i, h1, h2, h3⟩)
    · exact .inl z
    · exact .inr ⟨i, h1, h2, (h.at h1).mp h3⟩
  · rintro (z | ⟨i, h1, h2, h3⟩)
    · exact .inl z
    · exact .inr ⟨i, h1, h2, (h.at h1).mpr h3⟩
theorem sameG_wipe {G is : List Nat} {σ : L2.St} (h : dis is G = true) : SameG G σ (L2.wipe σ is) := fun i hi => L2.wipe_out fun z => dis_of h i z hi
theorem sameG_of {G is : List Nat} {σ σ' : L2.St} (h : dis is G = true) (e : L2.wipe σ' is = L2.wipe σ is) : SameG G σ σ' := fun i hi => by
  have n : i ∉ is := fun z => dis_of h i z hi
  rw [← L2.wipe_out n, e, L2.wipe_out n]
section
variable {K : PySem.W.Frag} {Z : Zone} {G : List Nat} {ρ : Env} {σ : L2.St} {H H' : Hp}
/-- a value stored in a slot that owns nothing -/
theorem Rep.setv (R : Rep K Z G ρ σ H) {i : Nat} {d : PyData} {v : V} (hi : i ∉ G) (r : RepD K (Av Z G [] σ) H d v) : Rep K Z G (ρ.set i (some d)) (σ.set i (some v)) H := by
  have sg : SameG G σ (σ.set i (some v)) := fun j hj => List.getElem?_set_ne fun z => hi (by rw [z]; exact hj)
  have mo : ∀ a, Av Z G [] (σ.set i (some v)) a → Av Z G [] σ a := fun a => sg.av.mp
  refine ⟨by rw [List.length_set, List.length_set]; exact R.len, fun j d' e n => ?_, fun j g => ?_, fun j k p gj gk a b => R.dis j k p gj gk ((sg.at gj).mp a) ((sg.at gk).mp b), fun j p g a => R.m0 j p g ((sg.at g).mp a), fun j p g a => R.fr0 j p g ((sg.at g).mp a),
    fun j p b => ⟨(R.byr j p b).1, (sg.at (R.byr j p b).1).mpr (R.byr j p b).2⟩, R.keep, R.m1⟩
  · by_cases h : i = j
    · subst h
      have hl : i < ρ.length := by
        rcases Nat.lt_or_ge i ρ.length with z | z
        · exact z
        · rw [List.getElem?_eq_none (by rw [List.length_set]; exact z)] at e; cases e
      rw [List.getElem?_set_self hl] at e
      cases e
      exact ⟨v, List.getElem?_set_self (by rw [R.len]; exact hl), RepD.mono mo _ _ r⟩
    · rw [List.getElem?_set_ne h] at e
      obtain ⟨u, e1, r1⟩ := R.val j d' e n
      exact ⟨u, by rw [List.getElem?_set_ne h]; exact e1, RepD.mono mo _ _ r1⟩
  · obtain ⟨p, xs, vs, e1, q, e2, r1⟩ := R.own j g
    exact ⟨p, xs, vs, by rw [List.getElem?_set_ne fun z => hi (by rw [z]; exact g)]; exact e1, (sg.at g).mpr q, e2, RepA.mono mo _ _ r1⟩
/-- forgetting slots that own nothing -/
theorem Rep.wipe (R : Rep K Z G ρ σ H) {is : List Nat} (h : Hx.dis is G = true) : Rep K Z G (Hx.wipe ρ is) (L2.wipe σ is) H := by
  have sg := sameG_wipe (σ := σ) h
  have mo : ∀ a, Av Z G [] (L2.wipe σ is) a → Av Z G [] σ a := fun a => sg.av.mp
  refine ⟨by rw [L2.wipe_length, wipe_len]; exact R.len, fun j d' e n => ?_, fun j g => ?_, fun j k p gj gk a b => R.dis j k p gj gk ((sg.at gj).mp a) ((sg.at gk).mp b), fun j p g a => R.m0 j p g ((sg.at g).mp a), fun j p g a => R.fr0 j p g ((sg.at g).mp a),
    fun j p b => ⟨(R.byr j p b).1, (sg.at (R.byr j p b).1).mpr (R.byr j p b).2⟩, R.keep, R.m1⟩
  · have hj := wipe_in' e
    rw [wipe_out' hj] at e
    obtain ⟨u, e1, r1⟩ := R.val j d' e n
    exact ⟨u, by rw [L2.wipe_out hj]; exact e1, RepD.mono mo _ _ r1⟩
  · obtain ⟨p, xs, vs, e1, q, e2, r1⟩ := R.own j g
    have hj : j ∉ is := fun z => dis_of h j z g
    exact ⟨p, xs, vs, by rw [wipe_out' hj]; exact e1, (sg.at g).mpr q, e2, RepA.mono mo _ _ r1⟩
theorem Rep.enter (R : Rep K Z G ρ σ H) {D : Addr} {o : HO} (hD : H D = none) : Rep K (Z.plus D) G ρ σ (upd H D o) := R.enterG hD (grow_upd hD) ⟨o, upd_same⟩
/-- it is changed -/
theorem Rep.turnM (R : Rep K Z G ρ σ H) {D : Addr} {o : HO} (hD : Z.M D) (hZ : Z.H D = none) : Rep K Z G ρ σ (upd H D o) := by
  have kA := keepA_upd (H := H) (o := o) (show Av Z G [] σ D from .inl hD)
  refine ⟨R.len, fun j d' e n => ?_, fun j gj => ?_, R.dis, R.m0, R.fr0, R.byr, fun a u e n => ?_, fun a z => ?_⟩
  · obtain ⟨u, e1, r1⟩ := R.val j d' e n
    exact ⟨u, e1, RepD.keep kA _ _ r1⟩
  · obtain ⟨p, xs, vs, e1, q, e2, r1⟩ := R.own j gj
    have hp : p ≠ D := fun z => R.m0 j p gj q (by rw [z]; exact hD)
    exact ⟨p, xs, vs, e1, q, by rw [upd_ne hp]; exact e2, RepA.keep kA _ _ r1⟩
  · have ha : a ≠ D := fun z => by rw [z, hZ] at e; cases e
    rw [upd_ne ha]
    exact R.keep a u e n
  · by_cases h : a = D
    · exact ⟨o, by rw [h]; exact upd_same⟩
    · obtain ⟨u, e⟩ := R.m1 a z
      exact ⟨u, by rw [upd_ne h]; exact e⟩
theorem Rep.newH (R : Rep K Z G ρ σ H) {D : Addr} (hD : H D = none) : Z.H D = none := by
  cases e : Z.H D with
  | none => rfl
  | some o =>
    exfalso
    by_cases h : ∃ i, (i, D) ∈ Z.B
    · obtain ⟨i, hi⟩ := h
      obtain ⟨g, a⟩ := R.byr i D hi
      obtain ⟨p, _, _, _, q, e2, _⟩ := R.own i g
      obtain rfl := at_inj q a
      rw [hD] at e2; cases e2
    · have := R.keep D o e fun i hi => h ⟨i, hi⟩
      rw [hD] at this; cases this
/-- behind a comprehension: its names have their old values back -/
theorem Rep.leave {Hb : Hp} {ρ' : Env} {is md : List Nat} {D : Addr} (R1 : Rep K Z G ρ σ H) (hD : H D = none) (R' : Rep K (Z.plus D) G (Hx.wipe ρ' is) (L2.wipe σ is) Hb) (h : Hx.dis is G = true) (hm : subL md G = true) (k : Kp md σ H Hb) : Rep K (Z.plus D) G (back ρ ρ' is) σ Hb := by
  have sg := sameG_wipe (σ := σ) h
  have mo : ∀ a, Av (Z.plus D) G [] σ a → Av (Z.plus D) G [] (L2.wipe σ is) a := fun a z => sg.av.mpr z
  have kA : KeepA (Av Z G [] σ) H Hb := k.keepA fun i hi => ⟨subL_of hm i hi, by simp⟩
  have sh : ShiftA (Av Z G [] σ) (Av (Z.plus D) G [] σ) H Hb := fun a o e n => ⟨kA a o e n, fun z => (av_plus.mp z).elim n fun z => by rw [z, hD] at e; cases e⟩
  have hl : ρ'.length = ρ.length := by
    have := R'.len
    rw [L2.wipe_length, wipe_len, R1.len] at this
    exact this.symm
  refine ⟨by rw [back_len, hl]; exact R1.len, fun j d e n => ?_, fun j g => ?_, R1.dis, fun j p g a => R'.m0 j p g ((sg.at g).mpr a), R1.fr0, R1.byr, R'.keep, fun a z => R'.m1 a z⟩
  · by_cases hj : j ∈ is
    · rw [back_in hl.symm hj] at e
      obtain ⟨v, e1, r⟩ := R1.val j d e n
      exact ⟨v, e1, RepD.shift sh _ _ r⟩
    · rw [back_out hj] at e
      obtain ⟨v, e1, r⟩ := R'.val j d (by rw [wipe_out' hj]; exact e) n
      rw [L2.wipe_out hj] at e1
      exact ⟨v, e1, RepD.mono mo _ _ r⟩
  · have hj : j ∉ is := fun z => dis_of h j z g
    obtain ⟨p, xs, vs, e1, q, e2, r⟩ := R'.own j g
    rw [wipe_out' hj] at e1
    exact ⟨p, xs, vs, by rw [back_out hj]; exact e1, (sg.at g).mp q, e2, RepA.mono mo _ _ r⟩
end
/-! ### targets -/
def gNs : List Nat → TGs
  | [] => gNil
  | i :: is => gCons (gName i) (gNs is)
def gT (K : PySem.W.Frag) : Tgt → TG
  | .v i => gName i
  | .tup is => gTup K is.length (gNs is)
section
variable {Γ : List Callee} {ER : ERel} {S : SC} {W : WX} {X : Cx} {G : List Nat}
theorem pgs_names (C : CxOk Γ ER S W X) : ∀ {is : List Nat} {es : List Expr}, tgtB.tupB S is es = true → PGs X es (gNs is) ∧ (assignEach es X.env).length = is.length ∧ (assignEach es X.env).findIdx? (·.1) = none
  | [], [], _ => ⟨pgs_nil, rfl, rfl⟩
  | i :: is, .Name x p :: es, h => by
    have h' : (nameB S i x && stoB S x && tgtB.tupB S is es) = true := h
    rw [Bool.and_eq_true, Bool.and_eq_true] at h'
    obtain ⟨e, k⟩ := nameB_of h'.1.1
    obtain ⟨l, f⟩ := C.sto h'.1.2
    obtain ⟨h1, h2, h3⟩ := pgs_names C h'.2
    refine ⟨pgs_cons (pg_name (by rw [C.N]; exact C.nd) (C.at e) l f) h1, ?_, ?_⟩
    · show (assignEach es X.env).length + 1 = is.length + 1
      rw [h2]
    · show List.findIdx? _ ((false, assign (.Name x p) X.env) :: assignEach es X.env) = none
      rw [List.findIdx?_cons]
      simp only [Bool.false_eq_true, if_false, h3, Option.map_none]
theorem pg_tgt (C : CxOk Γ ER S W X) {t : Tgt} {e : Expr} (h : tgtB S t e = true) : PG X e (gT X.K t) := by
  unfold tgtB at h
  split at h
  · rename_i i x p
    rw [Bool.and_eq_true] at h
    obtain ⟨e, k⟩ := nameB_of h.1
    obtain ⟨l, f⟩ := C.sto h.2
    exact pg_name (by rw [C.N]; exact C.nd) (C.at e) l f
  · rename_i is es k p
    obtain ⟨h1, h2, h3⟩ := pgs_names C h
    exact pg_tup C.calm h1 h2 h3
  · cases h
/-- values stored in slots that own nothing -/
theorem m_names {K : PySem.W.Frag} {Z : Zone} : ∀ {is : List Nat} {ds : List PyData} {vs : List V} {ρ ρ2 : Env} {σ : L2.St} {H : Hp} {Q : L2.St → Hp → Prop}, setAll is ds ρ = some ρ2 → dis is G = true → Rep K Z G ρ σ H → RepA K (Av Z G [] σ) H ds vs →
    (∀ σ2, Rep K Z G ρ2 σ2 H → (∀ i, i ∉ is → σ2[i]? = σ[i]?) → σ2.length = σ.length → Q σ2 H) → gNs is vs σ H Q
  | [], [], vs, ρ, ρ2, σ, H, Q, e, _, R, r, q => by
    cases e
    simp only [RepA] at r
    subst r
    exact ⟨rfl, q σ R (fun _ _ => rfl) rfl⟩
  | i :: is, d :: ds, vs, ρ, ρ2, σ, H, Q, e, h, R, r, q => by
    simp only [RepA] at r
    obtain ⟨v, vs', rfl, r1, r2⟩ := r
    have hi : i ∉ G := dis_of h i List.mem_cons_self
    have h2 : dis is G = true := List.all_eq_true.mpr fun j hj => List.all_eq_true.mp h j (List.mem_cons_of_mem _ hj)
    have R' := R.setv hi r1
    have sg : SameG G σ (σ.set i (some v)) := fun j hj => List.getElem?_set_ne fun z => hi (by rw [z]; exact hj)
    refine ⟨v, vs', rfl, m_names (show setAll is ds (ρ.set i (some d)) = some ρ2 from e) h2 R' (RepA.mono (fun a => sg.av.mp) _ _ r2) fun σ2 R2 e2 l2 => q σ2 R2 (fun j hj => ?_) (by rw [l2, List.length_set])⟩
    rw [e2 j fun z => hj (List.mem_cons_of_mem _ z), List.getElem?_set_ne fun z => hj (by rw [z]; exact List.mem_cons_self)]
  | [], _ :: _, _, _, _, _, _, _, e, _, _, _, _ => by cases e
  | _ :: _, [], _, _, _, _, _, _, e, _, _, _, _ => by cases e
theorem setAll_len : ∀ {is : List Nat} {ds : List PyData} {ρ ρ2 : Env}, setAll is ds ρ = some ρ2 → is.length = ds.length
  | [], [], _, _, _ => rfl
  | i :: is, d :: ds, ρ, ρ2, e => by rw [List.length_cons, List.length_cons, setAll_len (show setAll is ds (ρ.set i (some d)) = some ρ2 from e)]
  | [], _ :: _, _, _, e => by cases e
  | _ :: _, [], _, _, e => by cases e
/-- a new pair that an iterator makes: its items -/
def PairV (K : PySem.W.Frag) (A : Addr → Prop) (H : Hp) (d : PyData) (x : V) : Prop := ∃ T ws ds, d = .tuple ds ∧ x = .ref T ∧ SqT K H T ws ∧ RepA K A H ds ws
/-- what a target takes -/
def RepI (K : PySem.W.Frag) (A : Addr → Prop) (H : Hp) (t : Tgt) (d : PyData) (x : V) : Prop := RepD K A H d x ∨ (tupT t = true ∧ PairV K A H d x)
theorem m_tgt {K : PySem.W.Frag} {Z : Zone} {t : Tgt} {d : PyData} {v : V} {ρ ρ2 : Env} {σ : L2.St} {H : Hp} {Q : L2.St → Hp → Prop} (e : bindT t d ρ = some ρ2) (h : dis t.own G = true) (R : Rep K Z G ρ σ H) (r : RepI K (Av Z G [] σ) H t d v)
    (q : ∀ σ2, Rep K Z G ρ2 σ2 H → (∀ i, i ∉ t.own → σ2[i]? = σ[i]?) → σ2.length = σ.length → Q σ2 H) : gT K t v σ H Q := by
  cases t with
  | v i =>
    have e' : ρ.set i (some d) = ρ2 := Option.some.inj e
    subst e'
    have r := r.resolve_right fun z => by cases z.1
    refine q _ (R.setv (dis_of h i List.mem_cons_self) r) (fun j hj => List.getElem?_set_ne fun z => hj (by rw [z]; exact List.mem_cons_self)) (List.length_set ..)
  | tup is =>
    cases d with
    | tuple ds =>
      rcases r with r | ⟨_, T, ws, ds', e1, rfl, sq, ra⟩
      · simp only [RepD] at r
        obtain ⟨a, vs, rfl, s, ra⟩ := r
        exact ⟨a, vs, rfl, s.sq, by rw [← ra.length, setAll_len e], m_names e h R ra q⟩
      · cases e1
        exact ⟨T, ws, rfl, sq, by rw [← ra.length, setAll_len e], m_names e h R ra q⟩
    | _ => cases e
end
end Hx

set_option Elab.async false
set_option linter.all false
set_option maxRecDepth 100000
set_option maxHeartbeats 4000000
/-! H17: iterators, list comprehensions of one clause. -/
namespace Hx
open PySem PySem.Spec PyProof.Rows L2
structure ItOk (K : PySem.W.Frag) (Z : Zone) (G : List Nat) (f : Inf) (σ : L2.St) (H1 : Hp) (xs : List PyData) (J : It) (Gd : Hp → Prop) (Y : Nat → Hp → V → Hp → Prop) : Prop where
  walk : Walk J xs.length Gd Y
  stay : ∀ H', KeepA (Av Z G f.al σ) H1 H' → Gd H'
  yld : ∀ (i : Nat) (H' : Hp) (x : V) (H'' : Hp) (A' : Addr → Prop), i < xs.length → KeepA (Av Z G f.al σ) H1 H' → (∀ a, A' a → ∃ o, H' a = some o) → (∀ a o, H1 a = some o → ¬ Av Z G f.el σ a → ¬ A' a) → Y i H' x H'' →
    ∃ d, xs[i]? = some d ∧ (∀ a o, H' a = some o → H'' a = some o) ∧ (RepD K A' H'' d x ∨ (f.fr = true ∧ PairV K A' H'' d x))
section
variable (K : PySem.W.Frag) (ER : ERel) (W : WX) (G : List Nat) (f : Inf)
def tIt (m : Env → Res (List PyData × Env)) : TI := fun σ H R => ∃ Z ρ, Rep K Z G ρ σ H ∧ Wp (ExW K ER W Z G σ) (fun p => ∀ J H1 Gd Y, ItOk K Z G f σ H1 p.1 J Gd Y → Rep K Z G p.2 σ H1 → Kp f.md σ H H1 → R J H1) (m ρ)
end
section
variable {Γ : List Callee} {ER : ERel} {S : SC} {W : WX} {X : Cx} {G : List Nat}
abbrev JI (Γ : List Callee) (ER : ERel) (S : SC) (W : WX) (X : Cx) (G : List Nat) (it : II) : Prop := ∀ tg x, chkI S G it tg x = true → PI X tg x (tIt X.K ER W G (infI S.sg G it) (evI Γ it)) ∧ ∀ env v, foldedSetIterable x env v = pure v
theorem plain_fold {x : Expr} (h : plainX x = true) : ∀ env v, foldedSetIterable x env v = pure v := by
  intro env v
  cases x <;> first | rfl | cases h
/-- the items of a list or a tuple -/
theorem it_items {K : PySem.W.Frag} {Z : Zone} {f : Inf} {σ : L2.St} {H1 : Hp} {ds : List PyData} {vs : List V} {J : It} {Gd : Hp → Prop} (ra : RepA K (Av Z G f.el σ) H1 ds vs) (hal : subL f.el f.al = true) (w : Walk J vs.length Gd (YAt vs)) (st : ∀ H', KeepA (Av Z G f.al σ) H1 H' → Gd H') :
    ItOk K Z G f σ H1 ds J Gd (YAt vs) := by
  refine ⟨by rw [ra.length]; exact w, st, fun i H' x H'' A' hi k dom hA y => ?_⟩
  obtain ⟨rfl, e⟩ := y
  obtain ⟨d, e1, r1⟩ := ra.getV e
  exact ⟨d, e1, fun _ _ e => e, .inl <| RepD.shift (fun a o ea na => ⟨k a o ea fun z => na (av_el hal a z), hA a o ea na⟩) _ _ r1⟩
theorem i_seq {a : IE} (ha : JE Γ ER S W X G a) : JI Γ ER S W X G (.seq a) := by
  intro tg x h
  have h' : (chkE S G a x && plainX x && subL (infE S.sg G a).md G) = true := h
  rw [Bool.and_eq_true, Bool.and_eq_true] at h'
  obtain ⟨⟨h1, h2⟩, h3⟩ := h'
  refine ⟨(pi_seq (ha x h1)).imp fun σ H R hq => ?_, plain_fold h2⟩
  obtain ⟨Z, ρ, Rp, w0⟩ := hq
  have w0' : Wp (ExW X.K ER W Z G σ) (fun p => ∀ J H1 Gd Y, ItOk X.K Z G (infI S.sg G (.seq a)) σ H1 p.1 J Gd Y → Rep X.K Z G p.2 σ H1 → Kp (infI S.sg G (.seq a)).md σ H H1 → R J H1) ((evE Γ a ρ).bnd fun p => (Res.of (itemsOf p.1)).bnd fun xs => .ok (xs, p.2)) := w0
  refine ⟨Z, ρ, Rp, (wp_bnd w0').mono fun p w1 v H1 rv _ _ _ R1 k => ?_⟩
  obtain ⟨xs, ex, w3⟩ := wp_of w1
  have hal : subL (infI S.sg G (.seq a)).el (infI S.sg G (.seq a)).al = true := subL_r _ _
  match hp : p.1 with
  | .list ys =>
    rw [hp] at ex rv
    cases ex
    obtain ⟨t, ws, rfl, s1, ra⟩ := rv
    refine ⟨t, ws, rfl, .inl ⟨s1.sq, w3 _ H1 _ _ (it_items ra hal walk_list fun H' k' => (KeepA.ll (fun b o e n => k' b o e fun z => n (Av.mono (fun i hi => List.mem_append_left _ hi) z)) s1).sq) R1 k⟩⟩
  | .tuple ys =>
    rw [hp] at ex rv
    cases ex
    simp only [RepT, RepD] at rv
    obtain ⟨t, ws, rfl, s1, ra⟩ := rv
    refine ⟨t, ws, rfl, .inr ⟨s1.sq, w3 _ H1 _ _ (it_items ra hal walk_tup fun H' k' => (KeepA.sqT (fun b o e n => k' b o e fun z => n (Av.mono (fun i hi => List.mem_append_right _ hi) z)) s1).sq) R1 k⟩⟩
  | .none => rw [hp] at ex; cases ex
  | .bool _ => rw [hp] at ex; cases ex
  | .int _ => rw [hp] at ex; cases ex
  | .str _ => rw [hp] at ex; cases ex
  | .dict _ => rw [hp] at ex; cases ex
/-! ### ranges -/
theorem it_ints {K : PySem.W.Frag} {Z : Zone} {f : Inf} {σ : L2.St} {H1 : Hp} {n : Nat} {g : Nat → Int} {J : It} (w : Walk J n (fun _ => True) (YFn fun i => .int (g i))) : ItOk K Z G f σ H1 ((List.range n).map fun i => .int (g i)) J (fun _ => True) (YFn fun i => .int (g i)) := by
  refine ⟨by rw [List.length_map, List.length_range]; exact w, fun _ _ => trivial, fun i H' x H'' A' hi k dom hA y => ?_⟩
  obtain ⟨rfl, rfl⟩ := y
  rw [List.length_map, List.length_range] at hi
  exact ⟨.int (g i), by rw [List.getElem?_map, List.getElem?_range hi]; rfl, fun _ _ e => e, .inl (by simp only [RepD])⟩
theorem rng_three {ds : List PyData} {xs : List PyData} (h : rngD ds = some xs) (hl : ds.length = 3) : ∃ a b, ds = [.int a, .int b, .int (-1)] ∧ (-1000000 ≤ a ∧ a ≤ 1000000 ∧ -1000000 ≤ b ∧ b ≤ 1000000) ∧ xs = (List.range (a - b).toNat).map fun (i : Nat) => .int (a - (i : Int)) := by
  match ds, hl with
  | [d, e, f], _ =>
    cases d with
    | int a =>
      cases e with
      | int b =>
        cases f with
        | int c =>
          have h' : (if -1000000 ≤ a ∧ a ≤ 1000000 ∧ -1000000 ≤ b ∧ b ≤ 1000000 ∧ c = -1 then some ((List.range (a - b).toNat).map fun (i : Nat) => PyData.int (a - (i : Int))) else none) = some xs := h
          split at h'
          · rename_i hn
            obtain ⟨h1, h2, h3, h4, rfl⟩ := hn
            exact ⟨a, b, rfl, ⟨h1, h2, h3, h4⟩, (Option.some.inj h').symm⟩
          · cases h'
        | _ => cases h
      | _ => cases h
    | _ => cases h
theorem RepTs.int3 {K : PySem.W.Frag} {A B : Addr → Prop} {H : Hp} {n m l : Int} {vs : List V} (h : RepTs K A B H [.int n, .int m, .int l] vs) : vs = [.int n, .int m, .int l] := by
  obtain ⟨v, u, t, rfl, h1, h2, h3⟩ := h.three
  obtain rfl : v = .int n := h1
  obtain rfl : u = .int m := h2
  obtain rfl : t = .int l := h3
  rfl
theorem i_rng (C : CxOk Γ ER S W X) {es : IEs} (hs : JEs Γ ER S W X G es) : JI Γ ER S W X G (.rng es) := by
  intro tg x h
  have k8 : (kBuilt S "range" (chkEs S G es) x && subL (infEs S.sg G es).md G && (decide (iesLen es = 1) || decide (iesLen es = 2) || decide (iesLen es = 3))) = true := h
  rw [Bool.and_eq_true, Bool.and_eq_true] at k8
  obtain ⟨⟨k8, m1⟩, m2⟩ := k8
  unfold kBuilt at k8
  split at k8
  · rename_i y p us pos
    rw [Bool.and_eq_true, Bool.and_eq_true, Bool.and_eq_true] at k8
    obtain ⟨⟨⟨j1, j2⟩, j3⟩, j4⟩ := k8
    obtain rfl := beq_iff_eq.mp j1
    obtain ⟨pl, le⟩ := es_plain j4
    refine ⟨?_, fun _ _ => rfl⟩
    have key : ∀ (σ : L2.St) (H : Hp) (R : It → Hp → Prop), tIt X.K ER W G (infI S.sg G (.rng es)) (evI Γ (.rng es)) σ H R → tMs X.K ER W G (esF S.sg G es) (infEs S.sg G es).md (evEs Γ es) σ H fun vs H1 => ∃ ds xs, rngD ds = some xs ∧ ds.length = iesLen es ∧ RepTs X.K noA noA H1 ds vs ∧ ∀ J Gd Y, (∀ Z, ItOk X.K Z G (infI S.sg G (.rng es)) σ H1 xs J Gd Y) → R J H1 := fun σ H R hq => by
      obtain ⟨Z, ρ, Rp, w0⟩ := hq
      have w0' : Wp (ExW X.K ER W Z G σ) (fun p => ∀ J H1 Gd Y, ItOk X.K Z G (infI S.sg G (.rng es)) σ H1 p.1 J Gd Y → Rep X.K Z G p.2 σ H1 → Kp (infI S.sg G (.rng es)).md σ H H1 → R J H1) ((evEs Γ es ρ).bnd fun p => (Res.of (rngD p.1)).bnd fun xs => .ok (xs, p.2)) := w0
      refine ⟨Z, ρ, Rp, (wp_bnd w0').mono fun p w1 vs H1 A R1 k => ?_⟩
      obtain ⟨xs, ex, w3⟩ := wp_of w1
      exact ⟨p.1, xs, ex, by rw [A.ld, es_len], A.repTs.mono (fun _ z => z.elim) (fun _ z => z.elim), fun J Gd Y ok => w3 J H1 Gd Y (ok Z) R1 k⟩
    have h3 : iesLen es = 1 ∨ iesLen es = 2 ∨ iesLen es = 3 := by
      have q := m2
      simp only [Bool.or_eq_true, decide_eq_true_eq] at q
      omega
    rcases h3 with h3 | h3 | h3
    · match us, le.trans h3 with
      | [a], _ =>
        rw [List.all_cons, Bool.and_eq_true] at pl
        refine (pi_range1 (C.glo j3) (C.blt _ (by decide)) (hs [a] j4) (star_plain pl.1)).imp fun σ H R hq => ?_
        obtain ⟨Z, ρ, Rp, w⟩ := key σ H R hq
        refine ⟨Z, ρ, Rp, w.mono fun p w vs H1 A R1 k => ?_⟩
        obtain ⟨ds, xs, e1, e2, tv, q⟩ := w vs H1 A R1 k
        obtain ⟨n, rfl, b1, b2, rfl⟩ := rng_one e1 (by rw [e2, h3])
        refine ⟨n, tv.int1, by omega, by omega, q (Itr 0 n.toNat) (fun _ => True) (YFn fun i => .int ((0 : Int) + (i : Int))) fun Z => ?_⟩
        have e : (fun i : Nat => (i : Int)) = fun i : Nat => (0 : Int) + (i : Int) := by funext i; omega
        have ww := it_ints (K := X.K) (Z := Z) (G := G) (f := infI S.sg G (.rng es)) (σ := σ) (H1 := H1) (g := fun i => (0 : Int) + (i : Int)) (walk_range (lo := 0) (n := n.toNat))
        have e' : ((List.range n.toNat).map fun (i : Nat) => PyData.int (i : Int)) = (List.range n.toNat).map fun (i : Nat) => PyData.int ((0 : Int) + (i : Int)) := by
          congr 1
          funext i
          rw [Int.zero_add]
        rw [e']
        exact ww
    · match us, le.trans h3 with
      | [a, b], _ =>
        rw [List.all_cons, List.all_cons, Bool.and_eq_true, Bool.and_eq_true] at pl
        refine (pi_range2 (C.glo j3) (C.blt _ (by decide)) (hs [a, b] j4) (by rw [star_plain pl.1, star_plain pl.2.1]; rfl) (by rw [star_plain pl.2.1]; rfl)).imp fun σ H R hq => ?_
        obtain ⟨Z, ρ, Rp, w⟩ := key σ H R hq
        refine ⟨Z, ρ, Rp, w.mono fun p w vs H1 A R1 k => ?_⟩
        obtain ⟨ds, xs, e1, e2, tv, q⟩ := w vs H1 A R1 k
        obtain ⟨i, j, rfl, ⟨b1, b2, b3, b4⟩, rfl⟩ := rng_two e1 (by rw [e2, h3])
        exact ⟨i, j, tv.int2, ⟨by omega, by omega, by omega, by omega⟩, q (Itr i (j - i).toNat) (fun _ => True) (YFn fun k => .int (i + (k : Int))) fun Z => it_ints (g := fun k => i + (k : Int)) walk_range⟩
    · match us, le.trans h3 with
      | [a, b, c], _ =>
        rw [List.all_cons, List.all_cons, List.all_cons, Bool.and_eq_true, Bool.and_eq_true, Bool.and_eq_true] at pl
        refine (pi_range3 (C.glo j3) (C.blt _ (by decide)) (hs [a, b, c] j4) (star_plain pl.1) (star_any (by rw [List.all_cons, List.all_cons, pl.2.1, pl.2.2.1]; rfl))).imp fun σ H R hq => ?_
        obtain ⟨Z, ρ, Rp, w⟩ := key σ H R hq
        refine ⟨Z, ρ, Rp, w.mono fun p w vs H1 A R1 k => ?_⟩
        obtain ⟨ds, xs, e1, e2, tv, q⟩ := w vs H1 A R1 k
        obtain ⟨i, j, rfl, ⟨b1, b2, b3, b4⟩, rfl⟩ := rng_three e1 (by rw [e2, h3])
        refine ⟨i, j, -1, (i - j).toNat, tv.int3, RgC.neg (by omega) (by omega) (by omega) (by omega), q (Itc i (-1) (i - j).toNat) (fun _ => True) (YFn fun k => .int (i + (k : Nat) * (-1 : Int))) fun Z => ?_⟩
        have ww := it_ints (K := X.K) (Z := Z) (G := G) (f := infI S.sg G (.rng es)) (σ := σ) (H1 := H1) (g := fun k => i + (k : Nat) * (-1 : Int)) (walk_rangeC (lo := i) (c := -1) (n := (i - j).toNat))
        have e' : ((List.range (i - j).toNat).map fun (k : Nat) => PyData.int (i - (k : Int))) = (List.range (i - j).toNat).map fun (k : Nat) => PyData.int (i + (k : Int) * (-1 : Int)) := by
          congr 1
          funext k
          congr 1
          omega
        rw [e']
        exact ww
  · cases k8
/-! ### zip, enumerate -/
theorem zip2_len : ∀ (xs ys : List PyData), (zip2 xs ys).length = min xs.length ys.length
  | [], _ => by simp [zip2]
  | _ :: _, [] => by simp [zip2]
  | x :: xs, y :: ys => by
    show (zip2 xs ys).length + 1 = _
    rw [zip2_len xs ys, List.length_cons, List.length_cons]
    omega
theorem zip2_get : ∀ {xs ys : List PyData} {i : Nat} {x y : PyData}, xs[i]? = some x → ys[i]? = some y → (zip2 xs ys)[i]? = some (.tuple [x, y])
  | [], _, _, _, _, h, _ => by simp at h
  | _ :: _, [], _, _, _, _, h => by simp at h
  | a :: xs, b :: ys, 0, x, y, h1, h2 => by
    cases h1; cases h2
    rfl
  | a :: xs, b :: ys, i + 1, x, y, h1, h2 => zip2_get (xs := xs) (ys := ys) h1 h2
theorem enm_len : ∀ (xs : List PyData) (n : Nat), (enmL n xs).length = xs.length
  | [], _ => rfl
  | x :: xs, n => by
    show (enmL (n + 1) xs).length + 1 = _
    rw [enm_len xs]
    rfl
theorem enm_get : ∀ {xs : List PyData} {n i : Nat} {x : PyData}, xs[i]? = some x → (enmL n xs)[i]? = some (.tuple [.int ((n + i : Nat) : Int), x])
  | [], _, _, _, h => by simp at h
  | a :: xs, n, 0, x, h => by
    cases h
    rfl
  | a :: xs, n, i + 1, x, h => by
    have := enm_get (xs := xs) (n := n + 1) (i := i) (x := x) h
    rw [show n + 1 + i = n + (i + 1) by omega] at this
    exact this
/-- a new pair -/
theorem pair_rep {K : PySem.W.Frag} {A A' : Addr → Prop} {H1 H' : Hp} {T : Addr} {x y : PyData} {v u : V} (hT : H' T = none) (dom : ∀ a, A' a → ∃ o, H' a = some o) (sh : ShiftA A A' H1 H') (h1 : RepD K A H1 x v) (h2 : RepD K A H1 y u) :
    (∀ a o, H' a = some o → upd H' T (.tup [v, u]) a = some o) ∧ PairV K A' (upd H' T (.tup [v, u])) (.tuple [x, y]) (.ref T) := by
  have g := grow_upd (o := .tup [v, u]) hT
  refine ⟨g, ?_⟩
  have na : ¬ A' T := fun z => by
    obtain ⟨o, e⟩ := dom T z
    rw [hT] at e; cases e
  have kk : ShiftA A A' H1 (upd H' T (.tup [v, u])) := fun a o e n => ⟨g a o (sh a o e n).1, (sh a o e n).2⟩
  exact ⟨T, _, _, rfl, rfl, .inl (.inl upd_same), RepA.cons (RepD.shift kk _ _ h1) (RepA.cons (RepD.shift kk _ _ h2) RepA.nil)⟩
theorem walk_zipT {K : PySem.W.Frag} {a b : Addr} {xs ys : List V} {n : Nat} (hn : n = min xs.length ys.length) : Walk (RZ.ItzT K a b) n (fun H => SqT K H a xs ∧ SqT K H b ys) (YPair (fun i => xs[i]?) (fun i => ys[i]?)) := by
  subst hn
  refine ⟨fun i _ hi q => ?_, fun _ q => ⟨xs, ys, q.1, q.2, by omega⟩, fun i H v H' _ q y => ?_⟩
  · have h1 : i < xs.length := by omega
    have h2 : i < ys.length := by omega
    exact ⟨xs, ys, xs[i], ys[i], q.1, q.2, by simp [h1], by simp [h2]⟩
  · obtain ⟨T, x, z, h1, h2, h3, h4, h5⟩ := y
    exact ⟨T, x, z, h1, h2, h3, h4 xs q.1, h5 ys q.2⟩
theorem it_zip {K : PySem.W.Frag} {Z : Zone} {f : Inf} (hfr : f.fr = true) {σ : L2.St} {H1 : Hp} {ds es : List PyData} {vs us : List V} {J : It} {Gd : Hp → Prop} (ra : RepA K (Av Z G f.el σ) H1 ds vs) (rb : RepA K (Av Z G f.el σ) H1 es us) (hal : subL f.el f.al = true)
    (w : Walk J (min vs.length us.length) Gd (YPair (fun i => vs[i]?) (fun i => us[i]?))) (st : ∀ H', KeepA (Av Z G f.al σ) H1 H' → Gd H') : ItOk K Z G f σ H1 (zip2 ds es) J Gd (YPair (fun i => vs[i]?) (fun i => us[i]?)) := by
  refine ⟨by rw [zip2_len, ra.length, rb.length]; exact w, st, fun i H' x H'' A' hi k dom hA y => ?_⟩
  obtain ⟨T, v, u, rfl, hT, rfl, e1, e2⟩ := y
  obtain ⟨d, e3, r1⟩ := ra.getV e1
  obtain ⟨e, e4, r2⟩ := rb.getV e2
  obtain ⟨g, r⟩ := pair_rep hT dom (fun a o ea na => ⟨k a o ea fun z => na (av_el hal a z), hA a o ea na⟩) r1 r2
  exact ⟨_, zip2_get e3 e4, g, .inr ⟨hfr, r⟩⟩
theorem zip_of {ds xs : List PyData} (h : zipD ds = some xs) : (∃ a b, ds = [.list a, .list b] ∧ xs = zip2 a b) ∨ ∃ a b, ds = [.tuple a, .tuple b] ∧ xs = zip2 a b := by
  unfold zipD at h
  split at h
  · exact .inl ⟨_, _, rfl, (Option.some.inj h).symm⟩
  · exact .inr ⟨_, _, rfl, (Option.some.inj h).symm⟩
  · cases h
theorem i_zip (C : CxOk Γ ER S W X) {es : IEs} (hs : JEs Γ ER S W X G es) : JI Γ ER S W X G (.zip es) := by
  intro tg x h
  have k8 : (isTup1 tg && kBuilt S "zip" (chkEs S G es) x && subL (infEs S.sg G es).md G && decide (iesLen es = 2)) = true := h
  rw [Bool.and_eq_true, Bool.and_eq_true, Bool.and_eq_true] at k8
  obtain ⟨⟨⟨k0, k8⟩, m1⟩, m2⟩ := k8
  have h3 : iesLen es = 2 := of_decide_eq_true m2
  unfold kBuilt at k8
  split at k8
  · rename_i y p us pos
    rw [Bool.and_eq_true, Bool.and_eq_true, Bool.and_eq_true] at k8
    obtain ⟨⟨⟨j1, j2⟩, j3⟩, j4⟩ := k8
    obtain rfl := beq_iff_eq.mp j1
    obtain ⟨pl, le⟩ := es_plain j4
    refine ⟨?_, fun _ _ => rfl⟩
    match us, le.trans h3 with
    | [a, b], _ =>
      rw [List.all_cons, List.all_cons, Bool.and_eq_true, Bool.and_eq_true] at pl
      unfold isTup1 at k0
      split at k0
      · rename_i elts kk tpos
        refine (RZ.pi_zipA (C.glo j3) (C.blt _ (by decide)) (hs [a, b] j4) (star_plain pl.1) (star_any (by rw [List.all_cons, pl.2.1]; rfl))).imp fun σ H R hq => ?_
        obtain ⟨Z, ρ, Rp, w0⟩ := hq
        have w0' : Wp (ExW X.K ER W Z G σ) (fun p => ∀ J H1 Gd Y, ItOk X.K Z G (infI S.sg G (.zip es)) σ H1 p.1 J Gd Y → Rep X.K Z G p.2 σ H1 → Kp (infI S.sg G (.zip es)).md σ H H1 → R J H1) ((evEs Γ es ρ).bnd fun p => (Res.of (zipD p.1)).bnd fun xs => .ok (xs, p.2)) := w0
        refine ⟨Z, ρ, Rp, (wp_bnd w0').mono fun p w1 vs H1 A R1 k => ?_⟩
        obtain ⟨xs, ex, w3⟩ := wp_of w1
        have lds : p.1.length = 2 := by rw [A.ld, es_len, h3]
        have hal : subL (infI S.sg G (.zip es)).el (infI S.sg G (.zip es)).al = true := subL_r _ _
        have stl : ∀ {t : Addr} {ws : List V} {H' : Hp}, KeepA (Av Z G (infI S.sg G (.zip es)).al σ) H1 H' → LLA X.K (Av Z G (infEs S.sg G es).al σ) H1 t ws → SqL X.K H' t ws := fun k' s => (KeepA.ll (fun b o e n => k' b o e fun z => n (Av.mono (fun i hi => List.mem_append_left _ hi) z)) s).sq
        have stt : ∀ {t : Addr} {ws : List V} {H' : Hp}, KeepA (Av Z G (infI S.sg G (.zip es)).al σ) H1 H' → TTA X.K (Av Z G (infEs S.sg G es).el σ) H1 t ws → SqT X.K H' t ws := fun k' s => (KeepA.sqT (fun b o e n => k' b o e fun z => n (Av.mono (fun i hi => List.mem_append_right _ hi) z)) s).sq
        have tv := A.repTs
        rcases zip_of ex with ⟨x1, x2, hd, rfl⟩ | ⟨x1, x2, hd, rfl⟩
        · rw [hd] at tv
          obtain ⟨v, u, rfl, r1, r2⟩ := tv.two
          obtain ⟨t1, w1', rfl, s1, ra⟩ := r1
          obtain ⟨t2, w2', rfl, s2, rb⟩ := r2
          exact ⟨t1, t2, w1', w2', rfl, .inl ⟨s1.sq, s2.sq, w3 _ H1 _ _ (it_zip rfl ra rb hal (walk_zip rfl) fun H' k' => ⟨stl k' s1, stl k' s2⟩) R1 k⟩⟩
        · rw [hd] at tv
          obtain ⟨v, u, rfl, r1, r2⟩ := tv.two
          simp only [RepT, RepD] at r1 r2
          obtain ⟨t1, w1', rfl, s1, ra⟩ := r1
          obtain ⟨t2, w2', rfl, s2, rb⟩ := r2
          exact ⟨t1, t2, w1', w2', rfl, .inr ⟨s1.sq, s2.sq, w3 _ H1 _ _ (it_zip rfl ra rb hal (walk_zipT rfl) fun H' k' => ⟨stt k' s1, stt k' s2⟩) R1 k⟩⟩
      · cases k0
  · cases k8
theorem i_enm (C : CxOk Γ ER S W X) {a : IE} (ha : JE Γ ER S W X G a) : JI Γ ER S W X G (.enm a) := by
  intro tg x h
  have k8 : (isTup1 tg && kBuilt S "enumerate" (kCons (chkE S G a) List.isEmpty) x && subL (infE S.sg G a).md G) = true := h
  rw [Bool.and_eq_true, Bool.and_eq_true] at k8
  obtain ⟨⟨k0, k8⟩, m1⟩ := k8
  unfold kBuilt at k8
  split at k8
  · rename_i y p us pos
    rw [Bool.and_eq_true, Bool.and_eq_true, Bool.and_eq_true] at k8
    obtain ⟨⟨⟨j1, j2⟩, j3⟩, j4⟩ := k8
    obtain rfl := beq_iff_eq.mp j1
    refine ⟨?_, fun _ _ => rfl⟩
    match us, j4 with
    | z :: zs, j4 =>
      have k5 : (chkE S G a z && plainX z && zs.isEmpty) = true := j4
      rw [Bool.and_eq_true, Bool.and_eq_true] at k5
      obtain ⟨⟨k5, k6⟩, k7⟩ := k5
      obtain rfl := List.isEmpty_iff.mp k7
      unfold isTup1 at k0
      split at k0
      · rename_i elts kk tpos
        refine (pi_enum (C.glo j3) (C.blt _ (by decide)) (pa_cons (ha z k5) pa_nil (star_plain k6)) (star_plain k6)).imp fun σ H R hq => ?_
        obtain ⟨Z, ρ, Rp, w0⟩ := hq
        have w0' : Wp (ExW X.K ER W Z G σ) (fun p => ∀ J H1 Gd Y, ItOk X.K Z G (infI S.sg G (.enm a)) σ H1 p.1 J Gd Y → Rep X.K Z G p.2 σ H1 → Kp (infI S.sg G (.enm a)).md σ H H1 → R J H1) ((evE Γ a ρ).bnd fun p => (Res.of (itemsL p.1)).bnd fun xs => .ok (enmL 0 xs, p.2)) := w0
        refine ⟨Z, ρ, Rp, (wp_bnd w0').mono fun p w1 v H1 rv _ _ _ R1 k => ?_⟩
        obtain ⟨xs, ex, w3⟩ := wp_of w1
        have hal : subL (infI S.sg G (.enm a)).el (infI S.sg G (.enm a)).al = true := subL_r _ _
        match hp : p.1 with
        | .list ys =>
          rw [hp] at ex rv
          cases ex
          obtain ⟨t, ws, rfl, s1, ra⟩ := rv
          refine ⟨t, ws, rfl, s1.sq, w3 _ H1 (fun H => SqL X.K H t ws) (YPair (fun i => some (.int (i : Nat))) (fun i => ws[i]?)) ⟨by rw [enm_len, ra.length]; exact walk_enum, fun H' k' => (KeepA.ll (fun b o e n => k' b o e fun z => n (Av.mono (fun i hi => List.mem_append_left _ hi) z)) s1).sq, fun i H' x H'' A' hi k' dom hA y => ?_⟩ R1 k⟩
          obtain ⟨T, v, u, rfl, hT, rfl, e1, e2⟩ := y
          cases e1
          obtain ⟨d, e3, r1⟩ := ra.getV e2
          obtain ⟨g, r⟩ := pair_rep (x := .int (i : Int)) (v := .int (i : Nat)) hT dom (fun a o ea na => ⟨k' a o ea fun z => na (av_el hal a z), hA a o ea na⟩) (by simp only [RepD]) r1
          have := enm_get (n := 0) e3
          rw [Nat.zero_add] at this
          exact ⟨_, this, g, .inr ⟨rfl, r⟩⟩
        | .none => rw [hp] at ex; cases ex
        | .bool _ => rw [hp] at ex; cases ex
        | .int _ => rw [hp] at ex; cases ex
        | .str _ => rw [hp] at ex; cases ex
        | .dict _ => rw [hp] at ex; cases ex
        | .tuple _ => rw [hp] at ex; cases ex
      · cases k0
  · cases k8
end
end Hx

set_option Elab.async false
set_option linter.all false
set_option maxRecDepth 100000
set_option maxHeartbeats 4000000
/-! H18: list comprehensions of one clause. -/
namespace Hx
open PySem PySem.Spec PyProof.Rows L2
def W0 : WX := fun _ _ _ _ => False
theorem own_ix (S : SC) (is : List Nat) : (ownOf S is).map (·.2) = is := by
  unfold ownOf
  rw [List.map_map]
  exact List.map_id' is
section
variable {Γ : List Callee} {ER : ERel} {S : SC} {W : WX} {X : Cx} {G : List Nat}
theorem CxOk.blk (C : CxOk Γ ER S W X) (s : Shared) (H : Hp) (scope : Scope) (Ca : Addr) (cl : List (Str × Addr)) (fp : List Addr) : CxOk Γ ER (S.blk scope) W0 (X.blk s H scope (compEnvC scope cl Ca X.env) fp) := by
  refine ⟨C.N, ?_, C.nd, C.calm, C.un, C.gd, fun x e => ?_, C.blt, C.con, fun f s e => ?_, ?_⟩
  · show relabel scope X.env = relS scope S.sc
    rw [← C.sc]
    rfl
  · show (scope.names.lookup x == some NameKind.cell) = true
    have e' : scope.names.lookup x = some .cell := e
    rw [e']
    rfl
  · obtain ⟨g, e1, co⟩ := C.cal f s e
    exact ⟨g, e1, ⟨co.br, co.ex⟩⟩
  · rintro u s' ⟨a, B, sI, pins, σ, H, cls, d, e, I, nb, up, sky, na, os, ag, w⟩
    exact w.elim
/-- no exception in it -/
theorem Wp.ex0 {α : Type} {E : Str → List PyData → Env → Prop} {P : α → Prop} {r : Res α} (h : Wp (fun _ _ _ => False) P r) : Wp E P r := by
  cases r with
  | ok a => exact h
  | exc c xs ρ => exact h.elim
  | stuck => exact h
theorem Wp.ok_of {α : Type} {P : α → Prop} {r : Res α} (h : Wp (fun _ _ _ => False) P r) : ∃ a, r = .ok a ∧ P a := by
  cases r with
  | ok a => exact ⟨a, rfl, h⟩
  | exc c xs ρ => exact h.elim
  | stuck => exact h.elim
theorem wp_calm {α β : Type} {E : Str → List PyData → Env → Prop} {P : β → Prop} {r : Res α} {f : α → Res β} (h : Wp E P (r.calm.bnd f)) : Wp (fun _ _ _ => False) (fun a => Wp E P (f a)) r := by
  cases r with
  | ok a => exact h
  | exc c xs ρ => exact h
  | stuck => exact h
/-- the tests and the item of a comprehension -/
def compTurn1 (Γ : List Callee) (t : Tgt) (is : List Nat) (cs : ICs) (e : IE) : PyData → Env → Res (List PyData × Env) := fun x ρ' => (Res.of (bindT t x (wipe ρ' is))).bnd fun ρ2 => (evCs Γ cs ρ2).bnd fun p =>
  if p.1 = true then (evE Γ e p.2).bnd fun q => .ok ([q.1], q.2) else .ok ([], p.2)
theorem subL_trans {a b c : List Nat} (h : subL a b = true) (k : subL b c = true) : subL a c = true := List.all_eq_true.mpr fun i hi => by simpa using subL_of k i (subL_of h i hi)
structure CompB (t G : List Nat) (it : Inf) (ms : List Nat) (al : List Nat) : Prop where
  own : dis t G = true
  el : dis it.el G = true
  im : subL it.md G = true
  md : subL ms G = true
  apart : dis ms (it.al ++ al) = true
theorem compB_of {t G : List Nat} {it : Inf} {md : List Nat} {r : Inf} (h : compB t G it md r = true) : CompB t G it md r.al := by
  unfold compB at h
  rw [Bool.and_eq_true, Bool.and_eq_true, Bool.and_eq_true, Bool.and_eq_true, Bool.and_eq_true] at h
  exact ⟨h.1.1.1.1.1, h.1.1.1.1.2, h.1.1.1.2, h.1.1.2, h.1.2⟩
theorem m_comp {K : PySem.W.Frag} {fi f : Inf} {t : Tgt} {cs : ICs} {e : IE} {sg : List Sig} {mi : Env → Res (List PyData × Env)} {σ : L2.St} {H : Hp} {Q : VK} (htp : fi.fr = true → tupT t = true) (hB : CompB t.own G fi (mdCs sg G cs ++ (infE sg G e).md) ((infE sg G e).al ++ (infE sg G e).el))
    (hf : f = { al := (infE sg G e).al ++ (infE sg G e).el, el := (infE sg G e).al ++ (infE sg G e).el, md := fi.md ++ mdCs sg G cs ++ (infE sg G e).md, fr := true, ls := true })
    (hq : tM K ER W G f (fun ρ => (mi ρ).bnd fun p => (turns (compTurn1 Γ t t.own cs e) p.1 p.2).calm.bnd fun q => if q.1.length ≤ lim then .ok (.list q.1, back p.2 q.2 t.own) else .stuck) σ H Q) :
    tLc (tIt K ER W G fi mi) (gT K t) (tMt K ER W0 G { md := mdCs sg G cs } (evCs Γ cs)) (tM K ER W0 G (infE sg G e) (evE Γ e)) t.own σ H Q := by
  obtain ⟨Z, ρ, R, w0⟩ := hq
  refine ⟨Z, ρ, R, (wp_bnd w0).mono fun p w1 J H1 Gd Y ok R1 k1 => ?_⟩
  intro D hD
  have w2 := wp_calm w1
  have sgw := sameG_wipe (σ := σ) hB.own
  have nZ := R1.newH hD
  have hmd := hB.md
  have elA : ∀ a, Av (Z.plus D) G ((infE sg G e).al ++ (infE sg G e).el) σ a → Av (Z.plus D) G [] σ a := fun a => Av.mono (by simp)
  refine lc_it ok.walk (fun i H' => ∃ ρi accd acc, Rep K (Z.plus D) G (wipe ρi t.own) (L2.wipe σ t.own) H' ∧ H' D = some (.lst acc) ∧ RepA K (Av (Z.plus D) G ((infE sg G e).al ++ (infE sg G e).el) σ) H' accd acc ∧ Kp (mdCs sg G cs ++ (infE sg G e).md) σ H1 H' ∧
    Wp (fun _ _ _ => False) (fun q => Wp (ExW K ER W Z G σ) (fun p' => PostE K Z G f σ H p' Q) (if (accd ++ q.1).length ≤ lim then .ok (.list (accd ++ q.1), back p.2 q.2 t.own) else .stuck)) (turns (compTurn1 Γ t t.own cs e) (p.1.drop i) ρi)) ?_ ?_ ?_ ?_
  · refine ⟨p.2, [], [], (R1.enter hD).wipe hB.own, upd_same, RepA.nil, fun a o e _ => grow_upd hD a o e, ?_⟩
    rw [List.drop_zero]
    exact w2.mono fun q w => w
  · rintro i H' hi ⟨ρi, accd, acc, R', hD', ra, k', w⟩
    exact ok.stay H' (k'.keepA fun j hj => ⟨subL_of hmd j hj, fun z => dis_of hB.apart j hj (List.mem_append_left _ z)⟩)
  · rintro i x H2 H3 hi ⟨ρi, accd, acc, R', hD', ra, k', w⟩ y
    have kIt : KeepA (Av Z G fi.al σ) H1 H2 := k'.keepA fun j hj => ⟨subL_of hmd j hj, fun z => dis_of hB.apart j hj (List.mem_append_left _ z)⟩
    obtain ⟨d, ed, g3, rd⟩ := ok.yld i H2 x H3 (Av (Z.plus D) G [] (L2.wipe σ t.own)) hi kIt (fun a z => R'.there z) (fun a o ea na z => by
      rcases av_plus.mp z with z | z
      · rcases sgw.av.mp z with z | ⟨j, h1, _, h3⟩
        · exact na (.inl z)
        · exact na (.inr ⟨j, h1, fun z' => dis_of hB.el j z' h1, h3⟩)
      · rw [z, hD] at ea
        cases ea) y
    have hdr : p.1.drop i = d :: p.1.drop (i + 1) := by
      rw [List.drop_eq_getElem_cons hi]
      congr 1
      rw [List.getElem?_eq_getElem hi] at ed
      exact Option.some.inj ed
    rw [hdr] at w
    have w3 : Wp (fun _ _ _ => False) (fun q => Wp (ExW K ER W Z G σ) (fun p' => PostE K Z G f σ H p' Q) (if (accd ++ q.1).length ≤ lim then .ok (.list (accd ++ q.1), back p.2 q.2 t.own) else .stuck))
        ((compTurn1 Γ t t.own cs e d ρi).bnd fun a => (turns (compTurn1 Γ t t.own cs e) (p.1.drop (i + 1)) a.2).bnd fun b => .ok (a.1 ++ b.1, b.2)) := w
    have w4 : Wp (fun _ _ _ => False) (fun ρ2 => Wp (fun _ _ _ => False) (fun q => Wp (ExW K ER W Z G σ) (fun p' => PostE K Z G f σ H p' Q) (if (accd ++ q.1).length ≤ lim then .ok (.list (accd ++ q.1), back p.2 q.2 t.own) else .stuck))
        (((evCs Γ cs ρ2).bnd fun p => if p.1 = true then (evE Γ e p.2).bnd fun q => .ok ([q.1], q.2) else .ok ([], p.2)).bnd fun a => (turns (compTurn1 Γ t t.own cs e) (p.1.drop (i + 1)) a.2).bnd fun b => .ok (a.1 ++ b.1, b.2))) (Res.of (bindT t d (wipe ρi t.own))) := by
      unfold compTurn1 at w3
      cases eb : bindT t d (wipe ρi t.own) with
      | none => rw [eb] at w3; exact w3
      | some ρ2 => rw [eb] at w3; exact w3
    cases eb : bindT t d (wipe ρi t.own) with
    | none => rw [eb] at w4; exact w4.elim
    | some ρ2 =>
      rw [eb] at w4
      have R3 : Rep K (Z.plus D) G (wipe ρi t.own) (L2.wipe σ t.own) H3 := R'.grow g3
      refine m_tgt eb hB.own R3 (rd.imp_right fun z => ⟨htp z.1, z.2⟩) fun σ2 R4 e4 l4 => ?_
      have ew : L2.wipe σ2 t.own = L2.wipe σ t.own := by
        refine List.ext_getElem? fun j => ?_
        by_cases hj : j ∈ t.own
        · have hh : ∀ (τ : L2.St) (is : List Nat), j ∈ is → j < τ.length → (L2.wipe τ is)[j]? = some none := fun τ is => by
            induction is with
            | nil => intro h; cases h
            | cons a is ih =>
              intro h hl
              show ((L2.wipe τ is).set a none)[j]? = _
              by_cases ha : a = j
              · subst ha
                rw [List.getElem?_set_self (by rw [L2.wipe_length]; exact hl)]
              · rw [List.getElem?_set_ne ha]
                exact ih ((List.mem_cons.mp h).resolve_left fun z => ha z.symm) hl
          have l2 : σ2.length = σ.length := by rw [l4, L2.wipe_length]
          by_cases hl : j < σ.length
          · rw [hh σ2 _ hj (by rw [l2]; exact hl), hh σ _ hj hl]
          · rw [List.getElem?_eq_none (by rw [L2.wipe_length]; omega), List.getElem?_eq_none (by rw [L2.wipe_length]; omega)]
        · rw [L2.wipe_out hj, e4 j hj]
      have sg2 : SameG G σ σ2 := sameG_of hB.own ew
      refine ⟨ew, (Z.plus D), ρ2, R4, ?_⟩
      have w5 : Wp (fun _ _ _ => False) (fun q => Wp (ExW K ER W Z G σ) (fun p' => PostE K Z G f σ H p' Q) (if (accd ++ q.1).length ≤ lim then .ok (.list (accd ++ q.1), back p.2 q.2 t.own) else .stuck))
        (((evCs Γ cs ρ2).bnd fun p => if p.1 = true then (evE Γ e p.2).bnd fun q => .ok ([q.1], q.2) else .ok ([], p.2)).bnd fun a => (turns (compTurn1 Γ t t.own cs e) (p.1.drop (i + 1)) a.2).bnd fun b => .ok (a.1 ++ b.1, b.2)) := w4
      have w6 : Wp (fun _ _ _ => False) (fun c => Wp (fun _ _ _ => False) (fun q => Wp (ExW K ER W Z G σ) (fun p' => PostE K Z G f σ H p' Q) (if (accd ++ q.1).length ≤ lim then .ok (.list (accd ++ q.1), back p.2 q.2 t.own) else .stuck))
        ((if c.1 = true then (evE Γ e c.2).bnd fun q => .ok ([q.1], q.2) else .ok ([], c.2) : Res (List PyData × Env)).bnd fun a => (turns (compTurn1 Γ t t.own cs e) (p.1.drop (i + 1)) a.2).bnd fun b => .ok (a.1 ++ b.1, b.2))) (evCs Γ cs ρ2) := by
        cases hr : evCs Γ cs ρ2 with
        | ok c => rw [hr] at w5; exact w5
        | exc c xs ρ' => rw [hr] at w5; exact w5
        | stuck => rw [hr] at w5; exact w5
      refine Wp.ex0 (w6.mono fun c w7 H5 R5 k5 => ?_)
      have k15 : Kp (mdCs sg G cs ++ (infE sg G e).md) σ H1 H5 := (k'.trans (Kp.grow g3)).trans (fun a o ea n => k5 a o ea fun j hj z => n j (List.mem_append_left _ hj) ((sg2.at (subL_of hmd j (List.mem_append_left _ hj))).mp z))
      have notD : ∀ {Hx : Hp}, Rep K (Z.plus D) G ρ2 σ2 H3 → ∀ j, j ∈ G → ¬ At σ2 j D := fun R j hj z => R.m0 j D hj z (.inr rfl)
      have hD5 : H5 D = some (.lst acc) := k5 D _ (g3 D _ hD') fun j hj z => notD (Hx := H3) R4 j (subL_of hmd j (List.mem_append_left _ hj)) z
      have kA5 : KeepA (Av (Z.plus D) G ((infE sg G e).al ++ (infE sg G e).el) σ) H2 H5 := fun a o ea na => k5 a o (g3 a o ea) fun j hj z => na (.inr ⟨j, subL_of hmd j (List.mem_append_left _ hj), fun z' => dis_of hB.apart j (List.mem_append_left _ hj) (List.mem_append_right _ z'), (sg2.at (subL_of hmd j (List.mem_append_left _ hj))).mp z⟩)
      cases hc : c.1 with
      | false =>
        rw [hc, if_neg (by decide)] at w7
        dsimp only
        rw [if_neg (by decide)]
        have R5w := R5.wipe hB.own
        rw [ew] at R5w
        refine ⟨c.2, accd, acc, R5w, hD5, RepA.keep kA5 _ _ ra, k15, ?_⟩
        have w8 : Wp (fun _ _ _ => False) (fun q => Wp (ExW K ER W Z G σ) (fun p' => PostE K Z G f σ H p' Q) (if (accd ++ q.1).length ≤ lim then .ok (.list (accd ++ q.1), back p.2 q.2 t.own) else .stuck)) ((turns (compTurn1 Γ t t.own cs e) (p.1.drop (i + 1)) c.2).bnd fun b => .ok (([] : List PyData) ++ b.1, b.2)) := w7
        exact (wp_bnd w8).mono fun q w => w
      | true =>
        rw [hc, if_pos rfl] at w7
        dsimp only
        rw [if_pos rfl]
        refine ⟨(Z.plus D), c.2, R5, ?_⟩
        have w8 : Wp (fun _ _ _ => False) (fun v => Wp (fun _ _ _ => False) (fun q => Wp (ExW K ER W Z G σ) (fun p' => PostE K Z G f σ H p' Q) (if (accd ++ q.1).length ≤ lim then .ok (.list (accd ++ q.1), back p.2 q.2 t.own) else .stuck))
          ((turns (compTurn1 Γ t t.own cs e) (p.1.drop (i + 1)) v.2).bnd fun b => .ok ([v.1] ++ b.1, b.2))) (evE Γ e c.2) := by
          cases hr : evE Γ e c.2 with
          | ok v => rw [hr] at w7; exact w7
          | exc c xs ρ' => rw [hr] at w7; exact w7
          | stuck => rw [hr] at w7; exact w7
        refine Wp.ex0 (w8.mono fun v w9 u H6 ru _ _ _ R6 k6 => ?_)
        have hD6 : H6 D = some (.lst acc) := k6 D _ hD5 fun j hj z => notD (Hx := H3) R4 j (subL_of hmd j (List.mem_append_right _ hj)) z
        have kA6 : KeepA (Av (Z.plus D) G ((infE sg G e).al ++ (infE sg G e).el) σ) H5 H6 := fun a o ea na => k6 a o ea fun j hj z => na (.inr ⟨j, subL_of hmd j (List.mem_append_right _ hj), fun z' => dis_of hB.apart j (List.mem_append_right _ hj) (List.mem_append_right _ z'), (sg2.at (subL_of hmd j (List.mem_append_right _ hj))).mp z⟩)
        have w10 := wp_bnd w9
        obtain ⟨q, eq, wq⟩ := w10.ok_of
        have hlen : (accd ++ ([v.1] ++ q.1)).length ≤ lim := by
          obtain hl | hl := Nat.lt_or_ge lim (accd ++ ([v.1] ++ q.1)).length
          · have wq' : Wp (ExW K ER W Z G σ) (fun p' => PostE K Z G f σ H p' Q) (if (accd ++ ([v.1] ++ q.1)).length ≤ lim then .ok (.list (accd ++ ([v.1] ++ q.1)), back p.2 q.2 t.own) else .stuck) := wq
            rw [if_neg (by omega)] at wq'
            exact wq'.elim
          · exact hl
        have hz := lim_line
        have ra6 := RepA.keep kA6 _ _ (RepA.keep kA5 _ _ ra)
        refine ⟨acc, hD6, ?_, v.2, accd ++ [v.1], acc ++ [u], ?_, upd_same, ?_, ?_, ?_⟩
        · rw [← ra.length]
          rw [List.length_append, List.length_append, List.length_singleton] at hlen
          omega
        · have R6w := R6.wipe hB.own
          rw [ew] at R6w
          exact R6w.turnM (.inr rfl) nZ
        · have kAu : KeepA (Av (Z.plus D) G ((infE sg G e).al ++ (infE sg G e).el) σ) H6 (upd H6 D (.lst (acc ++ [u]))) := keepA_upd (av_plus.mpr (.inr rfl))
          refine RepA.append (RepA.keep kAu _ _ ra6) (RepA.cons (RepD.keep kAu _ _ (ru.toD (fun a z => ?_) fun a z => ?_)) RepA.nil)
          · exact sg2.av.mpr (Av.mono (fun j hj => List.mem_append_left _ hj) z)
          · exact sg2.av.mpr (Av.mono (fun j hj => List.mem_append_right _ hj) z)
        · intro a o ea n
          have e6 := k6 a o (k15 a o ea n) fun j hj z => n j (List.mem_append_right _ hj) ((sg2.at (subL_of hmd j (List.mem_append_right _ hj))).mp z)
          have ha : a ≠ D := fun z => by rw [z, hD] at ea; cases ea
          rw [upd_ne ha]
          exact e6
        · refine w10.mono fun q w => ?_
          have e8 : accd ++ [v.1] ++ q.1 = accd ++ ([v.1] ++ q.1) := List.append_assoc _ _ _
          rw [e8]
          exact w
  · rintro H' ⟨ρi, accd, acc, R', hD', ra, k', w⟩
    rw [List.drop_of_length_le (Nat.le_refl _)] at w
    have w3 : Wp (ExW K ER W Z G σ) (fun p' => PostE K Z G f σ H p' Q) (if (accd ++ []).length ≤ lim then .ok (.list (accd ++ []), back p.2 ρi t.own) else .stuck) := w
    rw [List.append_nil] at w3
    have hl : accd.length ≤ lim := by
      obtain hl | hl := Nat.lt_or_ge lim accd.length
      · rw [if_neg (by omega)] at w3
        exact w3.elim
      · exact hl
    rw [if_pos hl] at w3
    have rA : RepA K (Av Z G ((infE sg G e).al ++ (infE sg G e).el) σ) H' accd acc := RepA.mono (fun a z => av_plus.mpr (.inl z)) _ _ ra
    have nA : ∀ al, ¬ Av Z G al σ D := fun al => R1.new hD
    subst hf
    have kk : Kp (fi.md ++ mdCs sg G cs ++ (infE sg G e).md) σ H H' := by
      rw [List.append_assoc]
      exact k1.left.trans k'.right
    refine w3 (.ref D) H' ⟨D, acc, rfl, LLA.of hD' (nA _), rA⟩ (fun _ => ⟨⟨D, accd, acc, rfl, rfl, R1.older k1 hB.im hD, hD', RepA.mono (fun a z => av_plus.mpr z) _ _ ra⟩, fun q eq => by cases eq; exact R1.leave hD R' hB.own hB.md k'⟩) (fun _ => ⟨accd, rfl⟩) nofun (R1.leave hD R' hB.own hB.md k').minus kk
/-- a comprehension's parts -/
structure CompOk (Γ : List Callee) (ER : ERel) (S : SC) (W : WX) (X : Cx) (G : List Nat) (t : Tgt) (it : II) (cs : ICs) (e : IE) (x : Expr) : Prop where
  ex : ∃ elt tg iter ifs scope pos, x = .ListComp elt [⟨tg, iter, ifs, 0⟩] scope pos ∧ PI X tg iter (tIt X.K ER W G (infI S.sg G it) (evI Γ it)) ∧ (∀ env v, foldedSetIterable iter env v = pure v) ∧ BlkOk X.N X.env.scope scope (ownOf S t.own) ∧
    (∀ (s : Shared) (H : Hp) (C : Addr) (cl : List (Str × Addr)) (fp : List Addr), PG (X.blk s H scope (compEnvC scope cl C X.env) fp) tg (gT X.K t)) ∧
    (∀ (s : Shared) (H : Hp) (C : Addr) (cl : List (Str × Addr)) (fp : List Addr), PTs (X.blk s H scope (compEnvC scope cl C X.env) fp) ifs (tMt X.K ER W0 G { md := mdCs S.sg G cs } (evCs Γ cs))) ∧
    (∀ (s : Shared) (H : Hp) (C : Addr) (cl : List (Str × Addr)) (fp : List Addr), PE (X.blk s H scope (compEnvC scope cl C X.env) fp) elt (tM X.K ER W0 G (infE S.sg G e) (evE Γ e)))
  cb : CompB t.own G (infI S.sg G it) (mdCs S.sg G cs ++ (infE S.sg G e).md) ((infE S.sg G e).al ++ (infE S.sg G e).el)
  tp : (infI S.sg G it).fr = true → tupT t = true
theorem comp_ok (C : CxOk Γ ER S W X) {t : Tgt} {it : II} {cs : ICs} {e : IE} (hi : JI Γ ER S W X G it) (hc : ∀ {S' : SC} {W' : WX} {X' : Cx}, CxOk Γ ER S' W' X' → JCs Γ ER S' W' X' G cs) (he : ∀ {S' : SC} {W' : WX} {X' : Cx}, CxOk Γ ER S' W' X' → JE Γ ER S' W' X' G e) {x : Expr}
    (h : chkE S G (.comp t it cs e) x = true) : CompOk Γ ER S W X G t it cs e x := by
  have h' : (kComp S t (chkI S G it) (fun S' => chkCs S' G cs) (fun S' => chkE S' G e) x && compB t.own G (infI S.sg G it) (mdCs S.sg G cs ++ (infE S.sg G e).md) { al := (infE S.sg G e).al ++ (infE S.sg G e).el } && pairB (infI S.sg G it) t) = true := h
  rw [Bool.and_eq_true, Bool.and_eq_true] at h'
  obtain ⟨⟨h1, h2⟩, h3⟩ := h'
  refine ⟨?_, compB_of h2, pair_of h3⟩
  unfold kComp at h1
  split at h1
  · rename_i elt tg iter ifs k scope pos
    rw [Bool.and_eq_true, Bool.and_eq_true, Bool.and_eq_true, Bool.and_eq_true, Bool.and_eq_true] at h1
    obtain ⟨⟨⟨⟨⟨k0, k1⟩, k2⟩, k3⟩, k4⟩, k5⟩ := h1
    obtain rfl := of_decide_eq_true k0
    obtain ⟨i1, i2⟩ := hi tg iter k1
    refine ⟨elt, tg, iter, ifs, scope, pos, rfl, i1, i2, by rw [C.N, C.sc]; exact blkOk_by k5, fun s H Ca cl fp => pg_tgt (C.blk s H scope Ca cl fp) k2, fun s H Ca cl fp => (hc (C.blk s H scope Ca cl fp)).all_ ifs k3, fun s H Ca cl fp => he (C.blk s H scope Ca cl fp) elt k4⟩
  · cases h1
theorem CompOk.lc {t : Tgt} {it : II} {cs : ICs} {e : IE} {x : Expr} (O : CompOk Γ ER S W X G t it cs e x) {σ : L2.St} {H : Hp} {Q : VK} (q : tM X.K ER W G (infE S.sg G (.comp t it cs e)) (evE Γ (.comp t it cs e)) σ H Q) :
    tLc (tIt X.K ER W G (infI S.sg G it) (evI Γ it)) (gT X.K t) (tMt X.K ER W0 G { md := mdCs S.sg G cs } (evCs Γ cs)) (tM X.K ER W0 G (infE S.sg G e) (evE Γ e)) ((ownOf S t.own).map (·.2)) σ H Q := by
  rw [own_ix]
  exact m_comp O.tp O.cb rfl q
theorem s_comp (C : CxOk Γ ER S W X) {t : Tgt} {it : II} {cs : ICs} {e : IE} (hi : JI Γ ER S W X G it) (hc : ∀ {S' : SC} {W' : WX} {X' : Cx}, CxOk Γ ER S' W' X' → JCs Γ ER S' W' X' G cs) (he : ∀ {S' : SC} {W' : WX} {X' : Cx}, CxOk Γ ER S' W' X' → JE Γ ER S' W' X' G e) :
    JE Γ ER S W X G (.comp t it cs e) := by
  intro x h
  have O := comp_ok C hi hc he h
  obtain ⟨elt, tg, iter, ifs, scope, pos, rfl, i1, i2, bo, g, ts, es⟩ := O.ex
  exact (pe_lc C.calm (by rw [C.N]; exact C.nd) i1 bo g ts es (fun v => i2 X.env v)).imp fun σ H Q q => O.lc q
end
end Hx

set_option Elab.async false
set_option linter.all false
set_option maxRecDepth 100000
set_option maxHeartbeats 4000000
/-! H18b: comprehensions of two clauses: one clause's turns as a level, one level within another. -/
namespace Hx
open PySem PySem.Spec PyProof.Rows L2
theorem loop_it {J : It} {n : Nat} {Gd : Hp → Prop} {Y : Nat → Hp → V → Hp → Prop} (w : Walk J n Gd Y) {H1 : Hp} {Qd : Hp → Prop} (step : V → Hp → (Hp → Prop) → Prop) (Pv : Nat → Hp → Prop) (h0 : Pv 0 H1) (hG : ∀ i H, i ≤ n → Pv i H → Gd H)
    (hs : ∀ i x H H', i < n → Pv i H → Y i H x H' → step x H' (Pv (i + 1))) (hd : ∀ H, Pv n H → Qd H) :
    ∃ W : Nat → Nat → Hp → Prop, (∃ m, W 0 m H1) ∧ ∀ i m H, W i m H → (J.stop i H ∧ Qd H) ∨ (J.go i H ∧ ∃ Nx : Hp → Prop, (∀ H', Nx H' → ∃ m', m' < m ∧ W (i + 1) m' H') ∧ ∀ x H', J.yld i H x H' → step x H' Nx) := by
  refine ⟨fun i m H => m + i = n ∧ Pv i H, ⟨n, rfl, h0⟩, ?_⟩
  rintro i m H ⟨e, p⟩
  have g := hG i H (by omega) p
  by_cases hi : i < n
  · exact .inr ⟨w.goes i H hi g, Pv (i + 1), fun H' p' => ⟨m - 1, by omega, by omega, p'⟩, fun x H' y => hs i x H H' hi p (w.yields i H x H' hi g y)⟩
  · obtain rfl : i = n := by omega
    exact .inl ⟨w.stops H g, hd H p⟩
def GrowD (D : Addr) (H H' : Hp) : Prop := ∀ a o, H a = some o → a ≠ D → H' a = some o
theorem wipe_twice {α : Type} {l : List (Option α)} : ∀ {is js : List Nat} (w : List (Option α) → List Nat → List (Option α)), (∀ l, w l [] = l) → (∀ l i is, w l (i :: is) = (w l is).set i none) → (∀ i ∈ is, i ∈ js) → w (w l is) js = w l js := by
  intro is js w w0 w1 h
  have len : ∀ (l : List (Option α)) is, (w l is).length = l.length := fun l is => by
    induction is with
    | nil => rw [w0]
    | cons i is ih => rw [w1, List.length_set, ih]
  have inn : ∀ (l : List (Option α)) (is : List Nat) (j : Nat), j ∈ is → j < l.length → (w l is)[j]? = some none := fun l is j => by
    induction is with
    | nil => intro h; cases h
    | cons i is ih =>
      intro hj hl
      rw [w1]
      by_cases e : i = j
      · subst e
        rw [List.getElem?_set_self (by rw [len]; exact hl)]
      · rw [List.getElem?_set_ne e]
        exact ih ((List.mem_cons.mp hj).resolve_left fun z => e z.symm) hl
  have out : ∀ (l : List (Option α)) (is : List Nat) (j : Nat), j ∉ is → (w l is)[j]? = l[j]? := fun l is j => by
    induction is with
    | nil => intro _; rw [w0]
    | cons i is ih =>
      intro hj
      rw [w1, List.getElem?_set_ne fun z => hj (by rw [z]; exact List.mem_cons_self)]
      exact ih fun z => hj (List.mem_cons_of_mem _ z)
  refine List.ext_getElem? fun j => ?_
  by_cases hl : j < l.length
  · by_cases hj : j ∈ js
    · rw [inn _ _ _ hj (by rw [len]; exact hl), inn _ _ _ hj hl]
    · rw [out _ _ _ hj, out _ _ _ hj, out _ _ _ fun z => hj (h j z)]
  · rw [List.getElem?_eq_none (by rw [len, len]; omega), List.getElem?_eq_none (by rw [len]; omega)]
theorem wipe_twE {ρ : Env} {is js : List Nat} (h : ∀ i ∈ is, i ∈ js) : Hx.wipe (Hx.wipe ρ is) js = Hx.wipe ρ js := wipe_twice Hx.wipe (fun _ => rfl) (fun _ _ _ => rfl) h
theorem wipe_twS {σ : L2.St} {is js : List Nat} (h : ∀ i ∈ is, i ∈ js) : L2.wipe (L2.wipe σ is) js = L2.wipe σ js := wipe_twice L2.wipe (fun _ => rfl) (fun _ _ _ => rfl) h
theorem wipe_same {σ σ2 : L2.St} {ts is : List Nat} (h : ∀ i ∈ ts, i ∈ is) (l : σ2.length = (L2.wipe σ is).length) (e : ∀ j, j ∉ ts → σ2[j]? = (L2.wipe σ is)[j]?) : L2.wipe σ2 is = L2.wipe σ is := by
  have inn : ∀ (τ : L2.St) (is : List Nat) (j : Nat), j ∈ is → j < τ.length → (L2.wipe τ is)[j]? = some none := fun τ is j => by
    induction is with
    | nil => intro h; cases h
    | cons a is ih =>
      intro h hl
      show ((L2.wipe τ is).set a none)[j]? = _
      by_cases ha : a = j
      · subst ha
        rw [List.getElem?_set_self (by rw [L2.wipe_length]; exact hl)]
      · rw [List.getElem?_set_ne ha]
        exact ih ((List.mem_cons.mp h).resolve_left fun z => ha z.symm) hl
  have l2 : σ2.length = σ.length := by rw [l, L2.wipe_length]
  refine List.ext_getElem? fun j => ?_
  by_cases hl : j < σ.length
  · by_cases hj : j ∈ is
    · rw [inn σ2 _ _ hj (by omega), inn σ _ _ hj hl]
    · rw [L2.wipe_out hj, e j fun z => hj (h j z)]
  · rw [List.getElem?_eq_none (by rw [L2.wipe_length]; omega), List.getElem?_eq_none (by rw [L2.wipe_length]; omega)]
section
variable {K : PySem.W.Frag} {ER : ERel} {Z : Zone} {G : List Nat} {D : Addr} {A : List PyData → Hp → Prop} {σ0 : L2.St}
/-- what one turn of a clause promises: b its meaning behind the target, tb the machine's -/
def Turn (K : PySem.W.Frag) (Z : Zone) (G : List Nat) (D : Addr) (A : List PyData → Hp → Prop) (σ0 : L2.St) (is : List Nat) (b : Env → Res (List PyData × Env)) (tb : L2.St → Hp → (Hp → Prop) → Prop) : Prop :=
  ∀ (ρ2 : Env) (σ2 : L2.St) (H2 : Hp) (st : List PyData) (Q : Hp → Prop), SameG G σ0 σ2 → Rep K Z G ρ2 σ2 H2 → A st H2 →
    Wp (fun _ _ _ => False) (fun p => (st ++ p.1).length ≤ lim ∧ ∀ H3, Rep K Z G (Hx.wipe p.2 is) (L2.wipe σ2 is) H3 → GrowD D H2 H3 → A (st ++ p.1) H3 → Q H3) (b ρ2) → tb σ2 H2 Q
def levF (t : Tgt) (is : List Nat) (b : Env → Res (List PyData × Env)) : PyData → Env → Res (List PyData × Env) := fun x ρ' => (Res.of (bindT t x (Hx.wipe ρ' is))).bnd b
theorem level {f : Inf} {σ : L2.St} {H1 : Hp} {xs : List PyData} {J : It} {Gd : Hp → Prop} {Y : Nat → Hp → V → Hp → Prop} {t : Tgt} {is : List Nat} {b : Env → Res (List PyData × Env)} {tb : L2.St → Hp → (Hp → Prop) → Prop} {ρ : Env} {st : List PyData} {Qd : Hp → Prop}
    (htp : f.fr = true → tupT t = true) (ok : ItOk K Z G f σ H1 xs J Gd Y) (hM : Z.M D) (hel : dis f.el G = true) (his : dis is G = true) (hts : ∀ i ∈ t.own, i ∈ is) (sg : SameG G σ0 σ) (Am : ∀ {st H H'}, A st H → (∀ a o, H a = some o → H' a = some o) → A st H') (turn : Turn K Z G D A σ0 is b tb)
    (R : Rep K Z G ρ σ H1) (a0 : A st H1) (w : Wp (fun _ _ _ => False) (fun q => (st ++ q.1).length ≤ lim ∧ ∀ H3, Rep K Z G (Hx.wipe q.2 is) (L2.wipe σ is) H3 → GrowD D H1 H3 → A (st ++ q.1) H3 → Qd H3) (turns (levF t is b) xs ρ)) :
    ∃ W : Nat → Nat → Hp → Prop, (∃ m, W 0 m H1) ∧ ∀ i m H, W i m H → (J.stop i H ∧ Qd H) ∨ (J.go i H ∧ ∃ Nx : Hp → Prop, (∀ H', Nx H' → ∃ m', m' < m ∧ W (i + 1) m' H') ∧
      ∀ x H', J.yld i H x H' → gT K t x (L2.wipe σ is) H' fun σ2 H2 => L2.wipe σ2 is = L2.wipe σ is ∧ tb σ2 H2 Nx) := by
  have hts' : dis t.own G = true := List.all_eq_true.mpr fun i hi => List.all_eq_true.mp his i (hts i hi)
  have sgw := sameG_wipe (σ := σ) his
  have inM : ∀ al, Av Z G al σ D := fun al => .inl hM
  have kp : ∀ {al : List Nat} {H' : Hp}, GrowD D H1 H' → KeepA (Av Z G al σ) H1 H' := fun g a o e n => g a o e fun z => n (by rw [z]; exact inM _)
  refine loop_it ok.walk (fun x H' Nx => gT K t x (L2.wipe σ is) H' fun σ2 H2 => L2.wipe σ2 is = L2.wipe σ is ∧ tb σ2 H2 Nx)
    (fun i H' => ∃ ρi st', Rep K Z G (Hx.wipe ρi is) (L2.wipe σ is) H' ∧ GrowD D H1 H' ∧ A st' H' ∧ Wp (fun _ _ _ => False) (fun q => (st' ++ q.1).length ≤ lim ∧ ∀ H3, Rep K Z G (Hx.wipe q.2 is) (L2.wipe σ is) H3 → GrowD D H1 H3 → A (st' ++ q.1) H3 → Qd H3) (turns (levF t is b) (xs.drop i) ρi)) ?_ ?_ ?_ ?_
  · exact ⟨ρ, st, R.wipe his, fun a o e _ => e, a0, by rw [List.drop_zero]; exact w⟩
  · rintro i H' hi ⟨ρi, st', R', g', a', w'⟩
    exact ok.stay H' (kp g')
  · rintro i x H2 H3 hi ⟨ρi, st', R', g', a', w'⟩ y
    obtain ⟨d, ed, g3, rd⟩ := ok.yld i H2 x H3 (Av Z G [] (L2.wipe σ is)) hi (kp g') (fun a z => R'.there z) (fun a o ea na z => by
      rcases sgw.av.mp z with z | ⟨j, h1, _, h3⟩
      · exact na (.inl z)
      · exact na (.inr ⟨j, h1, fun z' => dis_of hel j z' h1, h3⟩)) y
    have hdr : xs.drop i = d :: xs.drop (i + 1) := by
      rw [List.drop_eq_getElem_cons hi]
      congr 1
      rw [List.getElem?_eq_getElem hi] at ed
      exact Option.some.inj ed
    rw [hdr] at w'
    have w2 : Wp (fun _ _ _ => False) (fun q => (st' ++ q.1).length ≤ lim ∧ ∀ H3, Rep K Z G (Hx.wipe q.2 is) (L2.wipe σ is) H3 → GrowD D H1 H3 → A (st' ++ q.1) H3 → Qd H3)
      ((levF t is b d ρi).bnd fun a => (turns (levF t is b) (xs.drop (i + 1)) a.2).bnd fun c => .ok (a.1 ++ c.1, c.2)) := w'
    unfold levF at w2
    cases eb : bindT t d (Hx.wipe ρi is) with
    | none => rw [eb] at w2; exact w2.elim
    | some ρ2 =>
      rw [eb] at w2
      refine m_tgt eb hts' (R'.grow g3) (rd.imp_right fun z => ⟨htp z.1, z.2⟩) fun σ2 R4 e4 l4 => ?_
      have ew := wipe_same hts l4 e4
      refine ⟨ew, turn ρ2 σ2 H3 st' _ (fun i hi => (sameG_of his ew i hi).trans (sg i hi)) R4 (Am a' g3) ((wp_bnd w2).mono fun a wa => ?_)⟩
      obtain ⟨c, ec, hc, _⟩ := (wp_bnd wa).ok_of
      have hc' : (st' ++ (a.1 ++ c.1)).length ≤ lim := hc
      refine ⟨by simp only [List.length_append] at hc' ⊢; omega, fun H5 R5 g5 a5 => ⟨a.2, st' ++ a.1, by rw [← ew]; exact R5, fun p o e n => g5 p o (g3 p o (g' p o e n)) n, a5, (wp_bnd wa).mono fun c hc => ?_⟩⟩
      have : st' ++ a.1 ++ c.1 = st' ++ (a.1 ++ c.1) := List.append_assoc _ _ _
      rw [this]
      exact hc
  · rintro H' ⟨ρi, st', R', g', a', w'⟩
    rw [List.drop_of_length_le (Nat.le_refl _)] at w'
    have w2 : (st' ++ []).length ≤ lim ∧ ∀ H3, Rep K Z G (Hx.wipe ρi is) (L2.wipe σ is) H3 → GrowD D H1 H3 → A (st' ++ []) H3 → Qd H3 := w'
    rw [List.append_nil] at w2
    exact w2.2 H' R' g' a'
variable {Γ : List Callee} {sg : List Sig}
/-- the tests of a clause, then .. -/
theorem turn_tests {is : List Nat} {cs : ICs} {b : Env → Res (List PyData × Env)} {tb : L2.St → Hp → (Hp → Prop) → Prop} (hm : mdCs sg G cs = []) (his : dis is G = true) (Am : ∀ {st H H'}, A st H → (∀ a o, H a = some o → H' a = some o) → A st H') (h : Turn K Z G D A σ0 is b tb) :
    Turn K Z G D A σ0 is (fun ρ => (evCs Γ cs ρ).bnd fun p => if p.1 = true then b p.2 else .ok ([], p.2)) (fun σ H Q => tMt K ER W0 G { md := mdCs sg G cs } (evCs Γ cs) σ H fun k H3 => if k = true then tb σ H3 Q else Q H3) := by
  intro ρ σ H st Q sg' R a w
  refine ⟨Z, ρ, R, Wp.ex0 ((wp_bnd w).mono fun p wp H3 R3 k3 => ?_)⟩
  have g3 : ∀ a o, H a = some o → H3 a = some o := fun a o e => k3 a o e fun i hi => by rw [hm] at hi; cases hi
  cases hp : p.1 with
  | false =>
    rw [hp, if_neg (by decide)] at wp
    dsimp only
    rw [if_neg (by decide)]
    have wp' : (st ++ []).length ≤ lim ∧ ∀ H3, Rep K Z G (Hx.wipe p.2 is) (L2.wipe σ is) H3 → GrowD D H H3 → A (st ++ []) H3 → Q H3 := wp
    rw [List.append_nil] at wp'
    exact wp'.2 H3 (R3.wipe his) (fun a o e _ => g3 a o e) (Am a g3)
  | true =>
    rw [hp, if_pos rfl] at wp
    dsimp only
    rw [if_pos rfl]
    exact h p.2 σ H3 st Q sg' R3 (Am a g3) (wp.mono fun q hq => ⟨hq.1, fun H4 R4 g4 a4 => hq.2 H4 R4 (fun a o e n => g4 a o (g3 a o e) n) a4⟩)
/-- .. a second clause -/
theorem turn_clause {is : List Nat} {it : II} {t2 : Tgt} {b : Env → Res (List PyData × Env)} {tb : L2.St → Hp → (Hp → Prop) → Prop} (htp : (infI sg G it).fr = true → tupT t2 = true) (hm : (infI sg G it).md = []) (hM : Z.M D) (hel : dis (infI sg G it).el G = true) (his : dis is G = true) (h2 : ∀ i ∈ t2.own, i ∈ is) (Am : ∀ {st H H'}, A st H → (∀ a o, H a = some o → H' a = some o) → A st H') (h : Turn K Z G D A σ0 t2.own b tb) :
    Turn K Z G D A σ0 is (fun ρ => (evI Γ it ρ).bnd fun q => turns (levF t2 t2.own b) q.1 q.2) (fun σ H Q => tIt K ER W0 G (infI sg G it) (evI Γ it) σ H fun J H4 => ∃ W1 : Nat → Nat → Hp → Prop, (∃ m, W1 0 m H4) ∧ ∀ j k H, W1 j k H →
      (J.stop j H ∧ Q H) ∨ (J.go j H ∧ ∃ Nx1 : Hp → Prop, (∀ H', Nx1 H' → ∃ k', k' < k ∧ W1 (j + 1) k' H') ∧ ∀ x H', J.yld j H x H' → gT K t2 x (L2.wipe σ t2.own) H' fun σ3 H5 => L2.wipe σ3 t2.own = L2.wipe σ t2.own ∧ tb σ3 H5 Nx1)) := by
  intro ρ σ H st Q sg' R a w
  have h2' : dis t2.own G = true := List.all_eq_true.mpr fun i hi => List.all_eq_true.mp his i (h2 i hi)
  refine ⟨Z, ρ, R, Wp.ex0 ((wp_bnd w).mono fun p wp J H4 Gd Y ok R4 k4 => ?_)⟩
  have g4 : ∀ a o, H a = some o → H4 a = some o := fun a o e => k4 a o e fun i hi => by rw [hm] at hi; cases hi
  refine level (A := A) (Qd := Q) htp ok hM hel h2' (fun i hi => hi) sg' Am h R4 (Am a g4) (wp.mono fun q hq => ⟨hq.1, fun H5 R5 g5 a5 => ?_⟩)
  have R6 := R5.wipe his
  rw [wipe_twE h2, wipe_twS h2] at R6
  exact hq.2 H5 R6 (fun a o e n => g5 a o (g4 a o e) n) a5
/-- an item of a list -/
def AccL (K : PySem.W.Frag) (Z : Zone) (G al : List Nat) (σ0 : L2.St) (D : Addr) : List PyData → Hp → Prop := fun st H => ∃ acc, H D = some (.lst acc) ∧ RepA K (Av Z G al σ0) H st acc
theorem AccL.mono {al : List Nat} {st : List PyData} {H H' : Hp} (h : AccL K Z G al σ0 D st H) (k : ∀ a o, H a = some o → H' a = some o) : AccL K Z G al σ0 D st H' := by
  obtain ⟨acc, e, r⟩ := h
  exact ⟨acc, k _ _ e, RepA.keep (fun a o e _ => k a o e) _ _ r⟩
theorem turn_item {is al : List Nat} {e : IE} (hm : (infE sg G e).md = []) (hM : Z.M D) (hZ : Z.H D = none) (his : dis is G = true) (h1 : ∀ i ∈ (infE sg G e).al, i ∈ al) (h2 : ∀ i ∈ (infE sg G e).el, i ∈ al) :
    Turn K Z G D (AccL K Z G al σ0 D) σ0 is (fun ρ => (evE Γ e ρ).bnd fun q => .ok ([q.1], q.2)) (fun σ H Q => tM K ER W0 G (infE sg G e) (evE Γ e) σ H fun y H7 => ∃ acc, H7 D = some (.lst acc) ∧ acc.length < sizeLine ∧ Q (upd H7 D (.lst (acc ++ [y])))) := by
  intro ρ σ H st Q sg' R a w
  refine ⟨Z, ρ, R, Wp.ex0 ((wp_bnd w).mono fun p wp v H3 rv _ _ _ R3 k3 => ?_)⟩
  have g3 : ∀ a o, H a = some o → H3 a = some o := fun a o e => k3 a o e fun i hi => by rw [hm] at hi; cases hi
  obtain ⟨acc, eD, ra⟩ := AccL.mono a g3
  have wp' : (st ++ [p.1]).length ≤ lim ∧ ∀ H3, Rep K Z G (Hx.wipe p.2 is) (L2.wipe σ is) H3 → GrowD D H H3 → AccL K Z G al σ0 D (st ++ [p.1]) H3 → Q H3 := wp
  have hz := lim_line
  have hl := wp'.1
  rw [List.length_append, List.length_singleton] at hl
  refine ⟨acc, eD, by rw [← ra.length]; omega, wp'.2 _ ((R3.wipe his).turnM hM hZ) (fun b o e n => by rw [upd_ne n]; exact g3 b o e) ⟨_, upd_same, ?_⟩⟩
  have kA : KeepA (Av Z G al σ0) H3 (upd H3 D (.lst (acc ++ [v]))) := keepA_upd (.inl hM)
  refine RepA.append (RepA.keep kA _ _ ra) (RepA.cons (RepD.keep kA _ _ (rv.toD (fun b z => ?_) fun b z => ?_)) RepA.nil)
  · exact Av.mono h1 (sg'.av.mpr z)
  · exact Av.mono h2 (sg'.av.mpr z)
/-- an entry of a dict -/
def AccK (K : PySem.W.Frag) (Z : Zone) (G al : List Nat) (σ0 : L2.St) (D : Addr) : List PyData → Hp → Prop := fun st H => ∃ kvs vs, pairsOf st = some kvs ∧ H D = some (.dK vs) ∧ RepK K (Av Z G al σ0) H (putsD [] kvs) vs
theorem AccK.mono {al : List Nat} {st : List PyData} {H H' : Hp} (h : AccK K Z G al σ0 D st H) (k : ∀ a o, H a = some o → H' a = some o) : AccK K Z G al σ0 D st H' := by
  obtain ⟨kvs, vs, e0, e, r⟩ := h
  exact ⟨kvs, vs, e0, k _ _ e, RepK.keep (fun a o e _ => k a o e) _ _ r⟩
end
end Hx

set_option Elab.async false
set_option linter.all false
set_option maxRecDepth 100000
set_option maxHeartbeats 4000000
/-! H18c: the machine's word on {k: v for .. in .. if .. for .. in .. if ..}. -/
namespace Hx
open PySem PySem.Spec PyProof.Rows L2
abbrev DC2 (kx vx t0 i0 : Expr) (f0 : List Expr) (t1 i1 : Expr) (f1 : List Expr) (scope : Scope) (pos : Pos) : Expr := .DictComp kx vx [⟨t0, i0, f0, 0⟩, ⟨t1, i1, f1, 0⟩] scope pos
def testsOf (fs : List Expr) (env : PySem.Env) : Sem Bool := forIn fs true fun c r => if r = true then do let ok ← isTrue c env (eval c env); pure (ForInStep.yield ok) else pure (ForInStep.yield r)
section
variable {prog : Program} {w : World} {A : Around} {R : Result → Shared → Prop} {s : Shared} {kx vx t0 i0 t1 i1 : Expr} {f0 f1 : List Expr} {scope : Scope} {pos : Pos} {it acc : Value} {D : Addr} {env : PySem.Env}
theorem dTurnOut : compTurn (DC2 kx vx t0 i0 f0 t1 i1 f1 scope pos) 0 it acc env = (do
    standAt i0.pos
    match ← pyNext it with
    | none => pure (.done .next)
    | some u =>
      letOwnedTupleGo t0 it u
      assign t0 env u
      let yes ← testsOf f0 env
      if yes then
        let y ← eval i1 env
        standAt i1.pos
        let y ← foldedSetIterable i1 env y
        let _ ← runOwn (.compStart (DC2 kx vx t0 i0 f0 t1 i1 f1 scope pos) 1 (← holding [y] (pyIter y)) acc env) env
      again (.compLoop (DC2 kx vx t0 i0 f0 t1 i1 f1 scope pos) 0 it acc env)) := by rfl
theorem dTurnIn : compTurn (DC2 kx vx t0 i0 f0 t1 i1 f1 scope pos) 1 it (.ref D) env = (do
    standAt i1.pos
    match ← pyNext it with
    | none => pure (.done .next)
    | some u =>
      letOwnedTupleGo t1 it u
      assign t1 env u
      let yes ← testsOf f1 env
      if yes then
        (do
          let a ← eval kx env
          let b ← holding [a] (eval vx env)
          standAt { kx.pos with endLine := vx.pos.endLine, endCol := vx.pos.endCol }
          holding [a, b] (dictSet D a b))
      again (.compLoop (DC2 kx vx t0 i0 f0 t1 i1 f1 scope pos) 1 it (.ref D) env)) := by rfl
abbrev nbd (prog : Program) (w : World) (A : Around) (env : PySem.Env) (R : Result → Shared → Prop) : Value → Shared → Prop := notedBy (model prog w) A env fun e s' => R (.error e) s'
abbrev Less (I : Nat → Shared → Prop) (n : Nat) (s' : Shared) : Prop := ∃ m, m < n ∧ I m s'
abbrev onlyOk (P : Shared → Prop) : Result → Shared → Prop := fun r s' => match r with
  | .ok _ => P s'
  | .error _ => False
/-- the loop of the first clause -/
theorem dLoopOut (hs : ∀ y, foldedSetIterable i1 env y = pure y) (I : Nat → Shared → Prop)
    (turn : ∀ n s, I n s → wpAny (model prog w) A (pyNext it) (fun r s1 => match r with
      | none => R (.ok .next) s1
      | some u => wpAny (model prog w) A (letOwnedTupleGo t0 it u) (fun _ s2 => wpAny (model prog w) A (assign t0 env u) (fun _ s3 => wpAny (model prog w) A (testsOf f0 env) (fun yes s4 =>
          if yes = true then wpAny (model prog w) A (eval i1 env) (fun y s5 => wpAny (model prog w) A (pyIter y) (fun j s6 => codeAny (model prog w) A (.compStart (DC2 kx vx t0 i0 f0 t1 i1 f1 scope pos) 1 j acc env) (onlyOk (Less I n)) s6) (nbd prog w A env R) s5) (nbd prog w A env R) s4
          else Less I n s4) (nbd prog w A env R) s3) (nbd prog w A env R) s2) (nbd prog w A env R) s1) (nbd prog w A env R) s)
    (n : Nat) (h : I n s) : codeAny (model prog w) A (.compLoop (DC2 kx vx t0 i0 f0 t1 i1 f1 scope pos) 0 it acc env) R s := by
  refine codeAny_loop rfl I (fun n s hI => ?_) n h
  show wpAny _ A ((compTurn (DC2 kx vx t0 i0 f0 t1 i1 f1 scope pos) 0 it acc env).onRaise fun x => do noteFrame x env; theTreesLotGoes x) _ _ s
  refine wpAny_noted ?_
  rw [dTurnOut]
  have step : ∀ {α β : Type} {t : Sem α} {k : α → Sem β} {P : β → Shared → Prop} {P' : α → Shared → Prop} {E : Value → Shared → Prop} {s : Shared}, wpAny (model prog w) A t P' E s → (∀ a s', P' a s' → wpAny (model prog w) A (k a) P E s') → wpAny (model prog w) A (t >>= k) P E s :=
    fun h k => wpAny_bind (wpAny_mono h k fun _ _ h' => h')
  refine wpAny_bind (wpAny_standAt (step (turn n s hI) fun r s1 h1 => ?_))
  cases r with
  | none => exact wpAny_pure h1
  | some u =>
    refine step h1 fun _ s2 h2 => step h2 fun _ s3 h3 => step h3 fun yes s4 h4 => ?_
    cases yes with
    | false => exact wpAny_pure ⟨rfl, h4⟩
    | true =>
      refine step h4 fun y s5 h5 => ?_
      refine wpAny_bind (wpAny_standAt (wpAny_bind (wpAny_of_eq (hs y) (wpAny_bind (wpAny_holding (wpAny_mono h5 (fun j s6 h6 => ?_) fun _ _ h' => h'))))))
      refine wpAny_bind (wpAny_runOwn ?_)
      rw [Around.mark_none]
      refine codeAny_mono h6 fun r s' hr => ?_
      cases r with
      | ok f =>
        first
          | exact wpAny_pure ⟨rfl, hr⟩
          | exact wpAny_bind (wpAny_pure (wpAny_pure ⟨rfl, hr⟩))
      | error e => exact hr.elim
/-- .. of the second -/
theorem dLoopIn (I : Nat → Shared → Prop)
    (turn : ∀ n s, I n s → wpAny (model prog w) A (pyNext it) (fun r s1 => match r with
      | none => R (.ok .next) s1
      | some u => wpAny (model prog w) A (letOwnedTupleGo t1 it u) (fun _ s2 => wpAny (model prog w) A (assign t1 env u) (fun _ s3 => wpAny (model prog w) A (testsOf f1 env) (fun yes s4 =>
          if yes = true then wpAny (model prog w) A (eval kx env) (fun a s5 => wpAny (model prog w) A (eval vx env) (fun b s6 => wpAny (model prog w) A (dictSet D a b) (fun _ s7 => Less I n s7) (nbd prog w A env R) s6) (nbd prog w A env R) s5) (nbd prog w A env R) s4
          else Less I n s4) (nbd prog w A env R) s3) (nbd prog w A env R) s2) (nbd prog w A env R) s1) (nbd prog w A env R) s)
    (n : Nat) (h : I n s) : codeAny (model prog w) A (.compLoop (DC2 kx vx t0 i0 f0 t1 i1 f1 scope pos) 1 it (.ref D) env) R s := by
  refine codeAny_loop rfl I (fun n s hI => ?_) n h
  show wpAny _ A ((compTurn (DC2 kx vx t0 i0 f0 t1 i1 f1 scope pos) 1 it (.ref D) env).onRaise fun x => do noteFrame x env; theTreesLotGoes x) _ _ s
  refine wpAny_noted ?_
  rw [dTurnIn]
  have step : ∀ {α β : Type} {t : Sem α} {k : α → Sem β} {P : β → Shared → Prop} {P' : α → Shared → Prop} {E : Value → Shared → Prop} {s : Shared}, wpAny (model prog w) A t P' E s → (∀ a s', P' a s' → wpAny (model prog w) A (k a) P E s') → wpAny (model prog w) A (t >>= k) P E s :=
    fun h k => wpAny_bind (wpAny_mono h k fun _ _ h' => h')
  refine wpAny_bind (wpAny_standAt (step (turn n s hI) fun r s1 h1 => ?_))
  cases r with
  | none => exact wpAny_pure h1
  | some u =>
    refine step h1 fun _ s2 h2 => step h2 fun _ s3 h3 => step h3 fun yes s4 h4 => ?_
    cases yes with
    | false => exact wpAny_pure ⟨rfl, h4⟩
    | true =>
      exact wpAny_bind (step h4 fun a s5 h5 => wpAny_bind (wpAny_holding (wpAny_mono h5 (fun b s6 h6 => wpAny_bind (wpAny_standAt (wpAny_holding (wpAny_mono h6 (fun _ s7 h7 => wpAny_pure ⟨rfl, h7⟩) fun _ _ h' => h')))) fun _ _ h' => h')))
/-- the second clause's start -/
theorem dStartIn (h0 : codeAny (model prog w) A (.compLoop (DC2 kx vx t0 i0 f0 t1 i1 f1 scope pos) 1 it acc env) R s)
    (h : wpAny (model prog w) A (pyIter it) (fun j s' => codeAny (model prog w) A (.compLoop (DC2 kx vx t0 i0 f0 t1 i1 f1 scope pos) 1 j acc env) R s') (nbd prog w A env R) s) :
    codeAny (model prog w) A (.compStart (DC2 kx vx t0 i0 f0 t1 i1 f1 scope pos) 1 it acc env) R s := by
  refine codeAny_of_tree ?_
  show wpAny _ _ ((compStart (DC2 kx vx t0 i0 f0 t1 i1 f1 scope pos) 1 it acc env).onRaise fun x => do noteFrame x env; standAt theWindowsPlace) _ _ s
  refine wpAny_notedAt ?_
  unfold compStart
  show wpAny _ _ (ask >>= _) _ _ s
  refine wpAny_bind (wpAny_askSetting (wpAny_ite ?_))
  split
  · first
      | exact wpAny_bind (wpAny_pure (wpAny_pure (And.intro rfl h0)))
      | exact wpAny_pure (And.intro rfl h0)
  · first
      | exact wpAny_bind (wpAny_rule (wpAny_bind (wpAny_standAt (wpAny_bind (wpAny_mono h (fun j s' h' => wpAny_pure (And.intro rfl h')) fun _ _ x => x)))))
      | (refine wpAny_bind (wpAny_rule ?_); show wpAny _ _ (standAt i1.pos >>= _) _ _ s; exact wpAny_bind (wpAny_standAt (wpAny_bind (wpAny_mono h (fun j s' h' => wpAny_pure (And.intro rfl h')) fun _ _ x => x))))
end
/-! ### in the layer -/
section
variable {X : Cx}
def tDc2 (wi : TI) (g : TG) (tt : TT) (wi1 : TI) (g1 : TG) (tt1 : TT) (tk tv : TE) (vs vs1 : List Nat) : TE := fun σ H Q => wi σ H fun J H1 => ∀ D, H1 D = none → ∃ W : Nat → Nat → Hp → Prop, (∃ m, W 0 m (upd H1 D (.dK []))) ∧ ∀ i m H, W i m H →
  (J.stop i H ∧ Q (.ref D) H) ∨ (J.go i H ∧ ∃ Nx : Hp → Prop, (∀ H', Nx H' → ∃ m', m' < m ∧ W (i + 1) m' H') ∧ ∀ x H', J.yld i H x H' → g x (L2.wipe σ vs) H' fun σ2 H2 => L2.wipe σ2 vs = L2.wipe σ vs ∧ tt σ2 H2 fun k H3 =>
    if k = true then wi1 σ2 H3 fun J1 H4 => ∃ W1 : Nat → Nat → Hp → Prop, (∃ m, W1 0 m H4) ∧ ∀ j k H, W1 j k H →
      (J1.stop j H ∧ Nx H) ∨ (J1.go j H ∧ ∃ Nx1 : Hp → Prop, (∀ H', Nx1 H' → ∃ k', k' < k ∧ W1 (j + 1) k' H') ∧ ∀ x H', J1.yld j H x H' → g1 x (L2.wipe σ2 vs1) H' fun σ3 H5 => L2.wipe σ3 vs1 = L2.wipe σ2 vs1 ∧ tt1 σ3 H5 fun k H6 =>
        if k = true then tk σ3 H6 fun y H7 => tv σ3 H7 fun z H8 => ∃ kvs q, y = kV q ∧ H8 D = some (.dK kvs) ∧ kvs.length < sizeLine ∧ Nx1 (upd H8 D (.dK (putK kvs q z))) else Nx1 H6)
    else Nx H3)
/-- what holds in the block -/
structure DBlk (Y : Cx) (tg : Expr) (g : TG) (ifs : List Expr) (tt : TT) (tg1 iter1 : Expr) (wi1 : TI) (g1 : TG) (ifs1 : List Expr) (tt1 : TT) (kx vx : Expr) (tk tv : TE) : Prop where
  g : PG Y tg g
  t : PTs Y ifs tt
  i1 : PI Y tg1 iter1 wi1
  g1 : PG Y tg1 g1
  t1 : PTs Y ifs1 tt1
  k : PE Y kx tk
  v : PE Y vx tv
variable {pins : List (Addr × Obj)} {s : Shared} {σ : L2.St} {H : Hp} {Q : VK} {kx vx tg iter tg1 iter1 : Expr} {ifs ifs1 : List Expr} {scope : Scope} {own : List (Str × Nat)} {vs1 : List Nat} {pos pos' : Pos} {wi wi1 : TI} {g g1 : TG} {tt tt1 : TT} {tk tv : TE} {use : Option (Value → Sem Unit)} {Qf : Value → Shared → Prop}
theorem dc2_core (hc : X.calm = true) (hN : X.N.Nodup) (I : Inv X pins σ H s) (hi : PI X tg iter wi) (ok : BlkOk X.N X.env.scope scope own) (hv : ∀ i ∈ vs1, i ∈ own.map (·.2))
    (hB : ∀ (s : Shared) (H : Hp) (C : Addr) (cl : List (Str × Addr)) (fp : List Addr), DBlk (X.blk s H scope (compEnvC scope cl C X.env) fp) tg g ifs tt tg1 iter1 wi1 g1 ifs1 tt1 kx vx tk tv)
    (hs : ∀ y, foldedSetIterable iter X.env y = pure y) (hs1 : ∀ env y, foldedSetIterable iter1 env y = pure y) (h : tDc2 wi g tt wi1 g1 tt1 tk tv (own.map (·.2)) vs1 σ H Q)
    (hRR : ∀ D C s' m H', Inv X pins σ H' s' → Q (.ref D) H' → s'.heap.Ns C m → FpOk X pins H' C → compPost (model X.prog X.w) X.A X.xe use Qf (.ref D) C (.ok .next) s') :
    wpAny (model X.prog X.w) X.A (comprehension (DC2 kx vx tg iter ifs tg1 iter1 ifs1 scope pos) scope X.env pos' newDict false (eval iter X.env) use) Qf X.xe s := by
  have clo : ∀ y ∈ scope.names, y.2 = .free → ∃ c, X.env.cells.lookup y.1 = some c := fun y hy e => (ok.free y hy e).elim (fun k => I.ok.has _ (.inl k)) fun k => I.ok.has _ (.inr k)
  refine wpAny_comprehension_free (use := use) rfl hs (closure_ok clo) ok.kind (fun y hy e => by rw [ok.uniq y hy, e])
    (thn (hi.run pins s σ H _ I h) fun xv s1 hx => thn hx fun itv s2 h2 => ?_)
  obtain ⟨it, fp, tn, J, H2, rfl, I2, T, st2, f2, q⟩ := h2
  refine wpAny_newObj_type (newEnv_comp ?_)
  generalize eD : s2.heap.objs.size = D
  have nD : H2 D = none := I2.hok.fresh (Nat.le_of_eq eD)
  obtain ⟨W, ⟨m0, w0⟩, turn⟩ := q D nD
  generalize es3 : ({ s2 with heap := s2.heap.push { cls := .type "dict", data := .dict #[] } } : Shared) = s3
  have hp3 : s3.heap = s2.heap.push { cls := .type "dict", data := .dict #[] } := by rw [← es3]
  have I3 : Inv X pins σ (upd H2 D (.dK [])) s3 := by
    rw [← es3]
    refine I2.laid (t' := s2.toks) (fun b o e => Heap.get?_push_of_some _ e) (Nat.le_of_eq eD) ?_
    rw [← eD]
    exact dk_empty s2.heap I2.big
  have lt2 : ∀ b ∈ fp, b < s2.heap.objs.size := fun b hb => (T.obj _ _ st2 b hb).elim fun o e => Heap.lt_size e.1
  have f3 : ∀ b ∈ fp, FpOk X pins (upd H2 D (.dK [])) b ∧ b < s3.heap.objs.size := fun b hb => by
    refine ⟨⟨?_, (f2 b hb).2⟩, by rw [hp3, Heap.size_push]; exact Nat.lt_succ_of_lt (lt2 b hb)⟩
    rw [upd_ne (by rw [← eD]; exact Nat.ne_of_lt (lt2 b hb))]
    exact (f2 b hb).1
  have st3 : tn 0 s3.heap := T.keep _ _ _ st2 fun b _ o e => by rw [hp3]; exact Heap.get?_push_of_some _ e
  have I4 := block_start I3 ok hN f3
  have B := hB s3 (upd H2 D (.dK [])) s3.heap.objs.size (cellsFrom (s3.heap.objs.size + 1) scope.names (cloFrom X.env.cells scope.names [])) fp
  show codeAny _ _ (.compStart (DC2 kx vx tg iter ifs tg1 iter1 ifs1 scope pos) 0 (.ref it) (.ref D) (compEnvC scope (cellsFrom (s3.heap.objs.size + 1) scope.names (cloFrom X.env.cells scope.names [])) s3.heap.objs.size X.env)) (compPost (model X.prog X.w) X.A X.xe use Qf (.ref D) s3.heap.objs.size) { s3 with heap := pushCells (s3.heap.push { cls := .type "dict", data := .dict #[] }) scope.names }
  have n3 : ∀ b ∈ fp, (upd H2 D (.dK [])) b = none := fun b hb => (f3 b hb).1.1
  generalize ece : compEnvC scope (cellsFrom (s3.heap.objs.size + 1) scope.names (cloFrom X.env.cells scope.names [])) s3.heap.objs.size X.env = ce at I4 B ⊢
  have loc : ce.locals = s3.heap.objs.size := by subst ece; rfl
  generalize eH3 : upd H2 D (.dK []) = H3 at I3 I4 B w0 n3 f3
  generalize es4 : ({ s3 with heap := pushCells (s3.heap.push { cls := .type "dict", data := .dict #[] }) scope.names } : Shared) = s4 at I4 ⊢
  have st4 : tn 0 s4.heap := T.keep _ _ _ st3 fun b _ o e => by rw [← es4]; exact pushCells_keeps _ _ _ _ (Heap.get?_push_of_some _ e)
  have stay : ∀ {σ' : L2.St} {H' : Hp} {s' : Shared}, Inv (X.blk s3 H3 scope ce fp) [] σ' H' s' → (∀ b ∈ fp, H' b = none) → ∀ b ∈ fp, FpOk (X.blk s3 H3 scope ce fp) [] H' b := fun I' hn b hb =>
    ⟨hn b hb, (I'.ok.exf b hb).1, I'.ok.exfs b hb, .inl hb, fun x c e => (I'.ok.exf b hb).2 x c e, fun p hp => (List.not_mem_nil (show p ∈ ([] : List (Addr × Obj)) from by simpa using hp)).elim⟩
  let INV : Nat → Shared → Prop := fun n s' => ∃ i H', Inv (X.blk s3 H3 scope ce fp) [] (L2.wipe σ (own.map (·.2))) H' s' ∧ tn i s'.heap ∧ (∀ b ∈ fp, H' b = none) ∧ W i n H'
  have loop : codeAny (model X.prog X.w) X.A (.compLoop (DC2 kx vx tg iter ifs tg1 iter1 ifs1 scope pos) 0 (.ref it) (.ref D) ce) (compPost (model X.prog X.w) X.A X.xe use Qf (.ref D) s3.heap.objs.size) s4 := by
    refine dLoopOut (hs1 ce) INV ?_ m0 ⟨0, H3, I4, st4, n3, w0⟩
    rintro n s5 ⟨i, H5, I5, st5, n5, w5⟩
    rcases turn i n H5 w5 with ⟨stop, fq⟩ | ⟨go, Nx, hNx, step⟩
    · refine thnF (T.done (X.blk s3 H3 scope ce fp) rfl rfl rfl hc i [] s5 _ H5 (fun _ _ => False) I5 (stay I5 n5) st5 stop) fun r s6 ⟨er, I6⟩ => ?_
      subst er
      have I7 : Inv X pins σ H5 s6 := I3.call' (ch := fp) I6.os I6.base I6.hok I6.bare fun b hb => ⟨(f3 b hb).1.2.2.2.1, (f3 b hb).1.2.1, (f3 b hb).1.2.2.2.2.1, (f3 b hb).1.2.2.2.2.2⟩
      have nC : H5 s3.heap.objs.size = none := by rw [← loc]; exact I6.free
      obtain ⟨m, hn, _⟩ := I6.loc
      have hn' : s6.heap.Ns ce.locals m := hn
      rw [loc] at hn'
      exact hRR D s3.heap.objs.size s6 m H5 I7 fq hn' (I3.fpOk (Nat.le_refl _) nC)
    · refine thnF (T.item (X.blk s3 H3 scope ce fp) rfl rfl rfl hc i [] s5 _ H5 (fun _ _ => False) I5 (stay I5 n5) st5 go) fun r s6 ⟨u, er, h6⟩ => ?_
      subst er
      refine thnF h6 fun _ s7 ⟨x, H7, I7, r7, y7, st7, n7⟩ => ?_
      refine thnF (B.g.run _ s7 _ H7 x u _ (I7.pinned (stay I7 n7) (T.obj _ _ st7)) r7 (step x H7 y7)) fun _ s8 ⟨σ8, H8, I8, ew8, q8⟩ => ?_
      refine thnF (B.t.run _ s8 σ8 H8 _ I8 q8) fun yes s9 ⟨H9, I9, q9⟩ => ?_
      have back' : ∀ {σ9 : L2.St} {s' : Shared} {H' : Hp}, Inv (X.blk s3 H3 scope ce fp) ([] ++ pinsAt fp s7.heap) σ9 H' s' → (L2.wipe σ (own.map (·.2))).length = σ9.length → (∀ (j : Nat) v, (L2.wipe σ (own.map (·.2)))[j]? = some (some v) → σ9[j]? = some (some v)) → Nx H' → Less INV n s' := fun {σ9 s' H'} I' hl hk nx => by
        obtain ⟨m', hm, w'⟩ := hNx H' nx
        have pin : ∀ b ∈ fp, ∀ o, s7.heap.get? b = some o → s'.heap.get? b = some o ∧ H' b = none := fun b hb o e =>
          (I'.pin (b, o) (List.mem_append_right _ (List.mem_append_right _ (mem_pinsAt hb e)))).imp id fun z => z.1
        exact ⟨m', hm, i + 1, H', (I'.unpinned (pins := [])).weak hl hk, T.keep _ _ _ st7 fun b hb o e => (pin b hb o e).1, fun b hb => (T.obj _ _ st7 b hb).elim fun o e => (pin b hb o e.1).2, w'⟩
      have l8 : (L2.wipe σ (own.map (·.2))).length = σ8.length := by rw [← ew8, L2.wipe_length]
      have k8 : ∀ (j : Nat) v, (L2.wipe σ (own.map (·.2)))[j]? = some (some v) → σ8[j]? = some (some v) ∧ j ∉ own.map (·.2) := fun j v e => by rw [← ew8] at e; exact wipe_some e
      cases yes with
      | false => exact back' I9 l8 (fun j v e => (k8 j v e).1) (by simpa using q9)
      | true =>
        have q9' := q9
        rw [if_pos rfl] at q9'
        rw [if_pos rfl]
        refine thnF (B.i1.run _ s9 σ8 H9 _ I9 q9') fun yv s10 hx => thnF hx fun itv s11 h11 => ?_
        obtain ⟨it1, fp1, tn1, J1, H11, rfl, I11, T1, st11, f11, W1, ⟨m1, w1⟩, turn1⟩ := h11
        have stay1 : ∀ {H' : Hp}, (∀ b ∈ fp1, H' b = none) → ∀ b ∈ fp1, FpOk (X.blk s3 H3 scope ce fp) ([] ++ pinsAt fp s7.heap) H' b := fun hn b hb => ⟨hn b hb, (f11 b hb).2⟩
        have inner : codeAny (model X.prog X.w) X.A (.compLoop (DC2 kx vx tg iter ifs tg1 iter1 ifs1 scope pos) 1 (.ref it1) (.ref D) ce) (onlyOk (Less INV n)) s11 := by
          refine dLoopIn (fun k s' => ∃ j H', Inv (X.blk s3 H3 scope ce fp) ([] ++ pinsAt fp s7.heap) (L2.wipe σ8 vs1) H' s' ∧ tn1 j s'.heap ∧ (∀ b ∈ fp1, H' b = none) ∧ W1 j k H') ?_ m1 ⟨0, H11, I11.weak (wipe_length _ _) (fun j v e => (wipe_some e).1), st11, fun b hb => (f11 b hb).1, w1⟩
          rintro k s12 ⟨j, H12, I12, st12, n12, w12⟩
          rcases turn1 j k H12 w12 with ⟨stop1, nx1⟩ | ⟨go1, Nx1, hNx1, step1⟩
          · refine thnF (T1.done (X.blk s3 H3 scope ce fp) rfl rfl rfl hc j _ s12 (L2.wipe σ8 vs1) H12 (fun _ _ => False) I12 (stay1 n12) st12 stop1) fun r s13 ⟨er, I13⟩ => ?_
            subst er
            refine back' I13 (l8.trans (wipe_length σ8 vs1).symm) (fun j v e => ?_) nx1
            obtain ⟨e1, e2⟩ := k8 j v e
            rw [L2.wipe_out fun z => e2 (hv j z)]
            exact e1
          · refine thnF (T1.item (X.blk s3 H3 scope ce fp) rfl rfl rfl hc j _ s12 (L2.wipe σ8 vs1) H12 (fun _ _ => False) I12 (stay1 n12) st12 go1) fun r s13 ⟨u1, er, h13⟩ => ?_
            subst er
            refine thnF h13 fun _ s14 ⟨x1, H14, I14, r14, y14, st14, n14⟩ => ?_
            refine thnF (B.g1.run _ s14 (L2.wipe σ8 vs1) H14 x1 u1 _ (I14.pinned (stay1 n14) (T1.obj _ _ st14)) r14 (step1 x1 H14 y14)) fun _ s15 ⟨σ15, H15, I15, ew15, q15⟩ => ?_
            refine thnF (B.t1.run _ s15 σ15 H15 _ I15 q15) fun yes1 s16 ⟨H16, I16, q16⟩ => ?_
            have back1 : ∀ {s' : Shared} {H' : Hp}, Inv (X.blk s3 H3 scope ce fp) (([] ++ pinsAt fp s7.heap) ++ pinsAt fp1 s14.heap) σ15 H' s' → Nx1 H' → Less (fun k s' => ∃ j H', Inv (X.blk s3 H3 scope ce fp) ([] ++ pinsAt fp s7.heap) (L2.wipe σ8 vs1) H' s' ∧ tn1 j s'.heap ∧ (∀ b ∈ fp1, H' b = none) ∧ W1 j k H') k s' := fun {s' H'} I' nx => by
              obtain ⟨m', hm, w'⟩ := hNx1 H' nx
              have pin : ∀ b ∈ fp1, ∀ o, s14.heap.get? b = some o → s'.heap.get? b = some o ∧ H' b = none := fun b hb o e =>
                (I'.pin (b, o) (List.mem_append_right _ (List.mem_append_right _ (mem_pinsAt hb e)))).imp id fun z => z.1
              exact ⟨m', hm, j + 1, H', I'.unpinned.weak (by rw [← ew15, L2.wipe_length]) (fun j v e => by rw [← ew15] at e; exact (wipe_some e).1), T1.keep _ _ _ st14 fun b hb o e => (pin b hb o e).1, fun b hb => (T1.obj _ _ st14 b hb).elim fun o e => (pin b hb o e.1).2, w'⟩
            cases yes1 with
            | false => exact back1 I16 (by simpa using q16)
            | true =>
              have q16' := q16
              rw [if_pos rfl] at q16'
              rw [if_pos rfl]
              refine thnF (B.k.run _ s16 σ15 H16 _ I16 q16') fun a s17 ⟨ya, H17, I17, r17, q17⟩ => thnF (B.v.run _ s17 σ15 H17 _ I17 q17) fun b s18 ⟨yb, H18, I18, r18, kvs, kk, ek, eD18, z18, nx⟩ => ?_
              subst ek
              exact d_dictSet (X := X.blk s3 H3 scope ce fp) I18 eD18 z18 r17 r18 fun s19 I19 => back1 I19 nx
        exact dStartIn inner (T1.self X.A 0 _ _ _ st11 inner)
  exact codeAny_compStart_dict loop (T.self X.A 0 _ _ _ st4 loop)
/-- as a value -/
theorem pe_dc2 (hc : X.calm = true) (hN : X.N.Nodup) (hi : PI X tg iter wi) (ok : BlkOk X.N X.env.scope scope own) (hv : ∀ i ∈ vs1, i ∈ own.map (·.2))
    (hB : ∀ (s : Shared) (H : Hp) (C : Addr) (cl : List (Str × Addr)) (fp : List Addr), DBlk (X.blk s H scope (compEnvC scope cl C X.env) fp) tg g ifs tt tg1 iter1 wi1 g1 ifs1 tt1 kx vx tk tv)
    (hs : ∀ y, foldedSetIterable iter X.env y = pure y) (hs1 : ∀ env y, foldedSetIterable iter1 env y = pure y) : PE X (DC2 kx vx tg iter ifs tg1 iter1 ifs1 scope pos) (tDc2 wi g tt wi1 g1 tt1 tk tv (own.map (·.2)) vs1) := by
  refine ⟨fun pins s σ H Q I h => ?_⟩
  rw [arm_eval_DictComp]
  refine dc2_core hc hN I hi ok hv hB hs hs1 h fun D C s' m H' I' q hn f => ⟨m, hn, fun h'' sb => ?_⟩
  obtain ⟨f0, f1, f2, f3, f4, f5⟩ := f
  exact ⟨.ref D, H', I'.turned (t' := s'.toks) (fun b o hb e => (sb.2 b hb).trans e) f0 f1 f3 f4 f5, rfl, q⟩
/-- name = {..} on one line, the name a local -/
theorem ps_setDc2 {i : Nat} {y : Str} {py spos : Pos} (hc : X.calm = true) (hN : X.N.Nodup) (hy : X.N[i]? = some y) (hyl : X.env.scope.names.lookup y = some .local)
    (hsw : swapsWith (DC2 kx vx tg iter ifs tg1 iter1 ifs1 scope pos) (some (.Name y py)) spos.line X.env = pure true) (hi : PI X tg iter wi) (ok : BlkOk X.N X.env.scope scope own) (hv : ∀ i ∈ vs1, i ∈ own.map (·.2))
    (hB : ∀ (s : Shared) (H : Hp) (C : Addr) (cl : List (Str × Addr)) (fp : List Addr), DBlk (X.blk s H scope (compEnvC scope cl C X.env) fp) tg g ifs tt tg1 iter1 wi1 g1 ifs1 tt1 kx vx tk tv)
    (hs : ∀ y, foldedSetIterable iter X.env y = pure y) (hs1 : ∀ env y, foldedSetIterable iter1 env y = pure y) :
    PS X (.Assign [.Name y py] (DC2 kx vx tg iter ifs tg1 iter1 ifs1 scope pos) spos) (tAsg (tDc2 wi g tt wi1 g1 tt1 tk tv (own.map (·.2)) vs1) (gName i)) := by
  refine ⟨fun pins s σ H E I h => ?_⟩
  rw [exec_Assign_Name_used _ _ _ _ hsw]
  refine wpAny_bind (wpAny_standAt (wpAny_bind ?_))
  show wpAny _ X.A (do let _ ← comprehension (DC2 kx vx tg iter ifs tg1 iter1 ifs1 scope pos) scope X.env (firstIterPos [⟨tg, iter, ifs, 0⟩, ⟨tg1, iter1, ifs1, 0⟩] pos) newDict false (eval iter X.env) (some (assign (.Name y py) X.env))) _ _ s
  have h' : tDc2 wi g tt wi1 g1 tt1 tk tv (own.map (·.2)) vs1 σ H (fun x H1 => gName i x σ H1 E.nx) := h
  refine wpAny_bind (thn (dc2_core (Qf := fun _ s' => SP X pins E .next s') hc hN I hi ok hv hB hs hs1 h' fun D C s' m H' I' q hn f => ?_) fun _ s' hq => wpAny_pure (wpAny_pure hq))
  show wpAny _ _ (assign (.Name y py) X.env (.ref D)) _ _ _
  refine wpAny_assign_Name (store_ok2 (v := V.ref D) I' hN hy (.inl hyl) rfl (fun s2 I2 ⟨a, sb, ha⟩ => ?_) (.inr hyl))
  obtain ⟨f0, f1, f2, f3, f4, f5⟩ := f
  have ne : C ≠ a := by
    rcases ha with z | z
    · rw [z]; exact f1
    · exact fun e => f4 y a z e.symm
  exact ⟨m, hn.sameBut sb ne, fun h3 sb3 => ⟨_, H', I2.turned (t' := s2.toks) (fun b o hb e => (sb3.2 b hb).trans e) f0 f1 f3 f4 f5, q⟩⟩
end
end Hx

set_option Elab.async false
set_option linter.all false
set_option maxRecDepth 100000
set_option maxHeartbeats 4000000
/-! H18d: comprehensions of two clauses. -/
namespace Hx
open PySem PySem.Spec PyProof.Rows L2
section
variable {Γ : List Callee} {ER : ERel} {S : SC} {W : WX} {X : Cx} {G : List Nat}
variable {K : PySem.W.Frag} {Z : Zone} {ρ : Env} {σ : L2.St} {H H' : Hp} {D : Addr} {sg : List Sig}
structure Comp2B (t G : List Nat) (it it2 : Inf) (md : List Nat) : Prop where
  own : dis t G = true
  el : dis it.el G = true
  el2 : dis it2.el G = true
  im : subL it.md G = true
  im2 : it2.md = []
  md : md = []
theorem comp2B_of {t G : List Nat} {it it2 : Inf} {md : List Nat} (h : comp2B t G it it2 md = true) : Comp2B t G it it2 md := by
  unfold comp2B at h
  simp only [Bool.and_eq_true, List.isEmpty_iff] at h
  exact ⟨h.1.1.1.1.1, h.1.1.1.1.2, h.1.1.1.2, h.1.1.2, h.1.2, h.2⟩
/-- an iterator behind a new object -/
theorem ItOk.plus {f : Inf} {H1 : Hp} {xs : List PyData} {J : It} {Gd : Hp → Prop} {Y : Nat → Hp → V → Hp → Prop} {o : HO} (ok : ItOk K Z G f σ H1 xs J Gd Y) (hD : H1 D = none) : ItOk K (Z.plus D) G f σ (upd H1 D o) xs J Gd Y := by
  have up : ∀ {al : List Nat} {a : Addr} {u : HO}, H1 a = some u → ¬ Av Z G al σ a → (upd H1 D o) a = some u ∧ ¬ Av (Z.plus D) G al σ a := fun {al a u} e n => by
    have ne : a ≠ D := fun z => by rw [z, hD] at e; cases e
    exact ⟨by rw [upd_ne ne]; exact e, fun z => (av_plus.mp z).elim n ne⟩
  have kA : ∀ {H' : Hp}, KeepA (Av (Z.plus D) G f.al σ) (upd H1 D o) H' → KeepA (Av Z G f.al σ) H1 H' := fun k a u e n => k a u (up e n).1 (up e n).2
  exact ⟨ok.walk, fun H' k => ok.stay H' (kA k), fun i H' x H'' A' hi k dom hA y => ok.yld i H' x H'' A' hi (kA k) dom (fun a u e n => hA a u (up e n).1 (up e n).2) y⟩
/-- the turns' meaning, in H1's words -/
def c2F (Γ : List Callee) (t : Tgt) (cs : ICs) (t2 : Tgt) (it2 : II) (cs2 : ICs) (e : IE) : PyData → Env → Res (List PyData × Env) :=
  levF t (t.own ++ t2.own) fun ρ => (evCs Γ cs ρ).bnd fun p => if p.1 = true then (evI Γ it2 p.2).bnd fun q => turns (levF t2 t2.own fun ρ => (evCs Γ cs2 ρ).bnd fun p => if p.1 = true then (evE Γ e p.2).bnd fun q => .ok ([q.1], q.2) else .ok ([], p.2)) q.1 q.2 else .ok ([], p.2)
def d2F (Γ : List Callee) (t t2 : Tgt) (it2 : II) (k v : IE) : PyData → Env → Res (List PyData × Env) :=
  levF t (t.own ++ t2.own) fun ρ => (evCs Γ .nil ρ).bnd fun p => if p.1 = true then (evI Γ it2 p.2).bnd fun q => turns (levF t2 t2.own fun ρ => (evCs Γ .nil ρ).bnd fun p => if p.1 = true then (evE Γ k p.2).bnd fun a => (evE Γ v a.2).bnd fun b => if keyOk a.1 = true then .ok ([PyData.tuple [a.1, b.1]], b.2) else .stuck else .ok ([], p.2)) q.1 q.2 else .ok ([], p.2)
theorem own2 {t t2 : Tgt} : ∀ i ∈ t2.own, i ∈ t.own ++ t2.own := fun i h => List.mem_append_right _ h
theorem m_comp2 {fi f : Inf} {t t2 : Tgt} {cs cs2 : ICs} {it2 : II} {e : IE} {mi : Env → Res (List PyData × Env)} {Q : VK} (htp : fi.fr = true → tupT t = true) (htp2 : (infI sg G it2).fr = true → tupT t2 = true) (hB : Comp2B (t.own ++ t2.own) G fi (infI sg G it2) (mdCs sg G cs ++ mdCs sg G cs2 ++ (infE sg G e).md))
    (hf : f = { al := (infE sg G e).al ++ (infE sg G e).el, el := (infE sg G e).al ++ (infE sg G e).el, md := fi.md, fr := true, ls := true })
    (hq : tM K ER W G f (fun ρ => (mi ρ).bnd fun p => (turns (c2F Γ t cs t2 it2 cs2 e) p.1 p.2).calm.bnd fun q => if q.1.length ≤ lim then .ok (.list q.1, back p.2 q.2 (t.own ++ t2.own)) else .stuck) σ H Q) :
    tLc2 (tIt K ER W G fi mi) (gT K t) (tMt K ER W0 G { md := mdCs sg G cs } (evCs Γ cs)) (tIt K ER W0 G (infI sg G it2) (evI Γ it2)) (gT K t2) (tMt K ER W0 G { md := mdCs sg G cs2 } (evCs Γ cs2)) (tM K ER W0 G (infE sg G e) (evE Γ e)) (t.own ++ t2.own) t2.own σ H Q := by
  obtain ⟨Z, ρ, R, w0⟩ := hq
  have m1 : mdCs sg G cs = [] := (List.append_eq_nil_iff.mp (List.append_eq_nil_iff.mp hB.md).1).1
  have m2 : mdCs sg G cs2 = [] := (List.append_eq_nil_iff.mp (List.append_eq_nil_iff.mp hB.md).1).2
  have m3 : (infE sg G e).md = [] := (List.append_eq_nil_iff.mp hB.md).2
  refine ⟨Z, ρ, R, (wp_bnd w0).mono fun p w1 J H1 Gd Y ok R1 k1 => ?_⟩
  intro D hD
  have w2 := wp_calm w1
  have nZ := R1.newH hD
  have hM : (Z.plus D).M D := .inr rfl
  have own2' : dis t2.own G = true := List.all_eq_true.mpr fun i hi => List.all_eq_true.mp hB.own i (own2 (t := t) i hi)
  have Am : ∀ {st : List PyData} {H H' : Hp}, AccL K (Z.plus D) G ((infE sg G e).al ++ (infE sg G e).el) σ D st H → (∀ a o, H a = some o → H' a = some o) → AccL K (Z.plus D) G ((infE sg G e).al ++ (infE sg G e).el) σ D st H' := fun a k => a.mono k
  have t0 := turn_item (K := K) (Γ := Γ) (sg := sg) (ER := ER) (σ0 := σ) (is := t2.own) (e := e) (al := (infE sg G e).al ++ (infE sg G e).el) m3 hM nZ own2' (fun i hi => List.mem_append_left _ hi) fun i hi => List.mem_append_right _ hi
  have t1 := turn_tests (A := AccL K (Z.plus D) G ((infE sg G e).al ++ (infE sg G e).el) σ D) (Γ := Γ) (ER := ER) m2 own2' Am t0
  have t2' := turn_clause (A := AccL K (Z.plus D) G ((infE sg G e).al ++ (infE sg G e).el) σ D) (Γ := Γ) (ER := ER) (is := t.own ++ t2.own) htp2 hB.im2 hM hB.el2 hB.own own2 Am t1
  have t3 := turn_tests (A := AccL K (Z.plus D) G ((infE sg G e).al ++ (infE sg G e).el) σ D) (Γ := Γ) (ER := ER) m1 hB.own Am t2'
  refine level (A := AccL K (Z.plus D) G ((infE sg G e).al ++ (infE sg G e).el) σ D) (st := []) (Qd := Q (.ref D)) htp (ok.plus hD) hM hB.el hB.own (fun i hi => List.mem_append_left _ hi) (fun i _ => rfl) Am t3 (R1.enter hD) ⟨[], upd_same, RepA.nil⟩ (w2.mono fun q w3 => ?_)
  by_cases hl : q.1.length ≤ lim
  · rw [if_pos hl] at w3
    refine ⟨hl, fun H3 R3 g3 a3 => ?_⟩
    obtain ⟨acc, eD, ra⟩ := a3
    have ra' : RepA K (Av (Z.plus D) G ((infE sg G e).al ++ (infE sg G e).el) σ) H3 q.1 acc := ra
    have k3 : Kp [] σ H1 H3 := fun a o ea _ => by
      have ne : a ≠ D := fun z => by rw [z, hD] at ea; cases ea
      exact g3 a o (by rw [upd_ne ne]; exact ea) ne
    have lv := R1.leave hD R3 hB.own (md := []) rfl k3
    subst hf
    exact w3 (.ref D) H3 ⟨D, acc, rfl, LLA.of eD (R1.new hD), RepA.mono (fun a z => av_plus.mpr (.inl z)) _ _ ra'⟩ (fun _ => ⟨⟨D, q.1, acc, rfl, rfl, R1.older k1 hB.im hD, eD, RepA.mono (fun a z => av_plus.mpr z) _ _ ra'⟩, fun u eq => by cases eq; exact lv⟩) (fun _ => ⟨q.1, rfl⟩) nofun lv.minus (k1.trans (k3.mono (by simp)))
  · rw [if_neg hl] at w3
    exact w3.elim
theorem built_fold {S : SC} {n : Str} {ks : CKs} {x : Expr} (h : kBuilt S n ks x = true) : ∀ env v, foldedSetIterable x env v = pure v := by
  unfold kBuilt at h
  split at h
  · exact fun _ _ => rfl
  · cases h
theorem i_fold {S : SC} : ∀ {it : II} {tg x : Expr}, chkI S G it tg x = true → ∀ env v, foldedSetIterable x env v = pure v
  | .seq a, tg, x, h => by
    have h' : (chkE S G a x && plainX x && subL (infE S.sg G a).md G) = true := h
    rw [Bool.and_eq_true, Bool.and_eq_true] at h'
    exact plain_fold h'.1.2
  | .rng es, tg, x, h => by
    have h' : (kBuilt S "range" (chkEs S G es) x && subL (infEs S.sg G es).md G && (decide (iesLen es = 1) || decide (iesLen es = 2) || decide (iesLen es = 3))) = true := h
    rw [Bool.and_eq_true, Bool.and_eq_true] at h'
    exact built_fold h'.1.1
  | .zip es, tg, x, h => by
    have h' : (isTup1 tg && kBuilt S "zip" (chkEs S G es) x && subL (infEs S.sg G es).md G && decide (iesLen es = 2)) = true := h
    rw [Bool.and_eq_true, Bool.and_eq_true, Bool.and_eq_true] at h'
    exact built_fold h'.1.1.2
  | .enm a, tg, x, h => by
    have h' : (isTup1 tg && kBuilt S "enumerate" (kCons (chkE S G a) List.isEmpty) x && subL (infE S.sg G a).md G) = true := h
    rw [Bool.and_eq_true, Bool.and_eq_true] at h'
    exact built_fold h'.1.2
/-- a clause's parts in the block -/
structure Comp2Ok (Γ : List Callee) (ER : ERel) (S : SC) (W : WX) (X : Cx) (G : List Nat) (t : Tgt) (it : II) (cs : ICs) (t2 : Tgt) (it2 : II) (cs2 : ICs) (e : IE) (x : Expr) : Prop where
  ex : ∃ elt tg iter ifs tg1 iter1 ifs1 scope pos, x = .ListComp elt [⟨tg, iter, ifs, 0⟩, ⟨tg1, iter1, ifs1, 0⟩] scope pos ∧ PI X tg iter (tIt X.K ER W G (infI S.sg G it) (evI Γ it)) ∧ (∀ env v, foldedSetIterable iter env v = pure v) ∧ (∀ env v, foldedSetIterable iter1 env v = pure v) ∧ BlkOk X.N X.env.scope scope (ownOf S (t.own ++ t2.own)) ∧
    ∀ (s : Shared) (H : Hp) (C : Addr) (cl : List (Str × Addr)) (fp : List Addr), PG (X.blk s H scope (compEnvC scope cl C X.env) fp) tg (gT X.K t) ∧ PTs (X.blk s H scope (compEnvC scope cl C X.env) fp) ifs (tMt X.K ER W0 G { md := mdCs S.sg G cs } (evCs Γ cs)) ∧ PI (X.blk s H scope (compEnvC scope cl C X.env) fp) tg1 iter1 (tIt X.K ER W0 G (infI S.sg G it2) (evI Γ it2)) ∧
      PG (X.blk s H scope (compEnvC scope cl C X.env) fp) tg1 (gT X.K t2) ∧ PTs (X.blk s H scope (compEnvC scope cl C X.env) fp) ifs1 (tMt X.K ER W0 G { md := mdCs S.sg G cs2 } (evCs Γ cs2)) ∧ PE (X.blk s H scope (compEnvC scope cl C X.env) fp) elt (tM X.K ER W0 G (infE S.sg G e) (evE Γ e))
  cb : Comp2B (t.own ++ t2.own) G (infI S.sg G it) (infI S.sg G it2) (mdCs S.sg G cs ++ mdCs S.sg G cs2 ++ (infE S.sg G e).md)
  tp : (infI S.sg G it).fr = true → tupT t = true
  tp2 : (infI S.sg G it2).fr = true → tupT t2 = true
theorem comp2_ok (C : CxOk Γ ER S W X) {t t2 : Tgt} {it it2 : II} {cs cs2 : ICs} {e : IE} (hi : JI Γ ER S W X G it) (hc : ∀ {S' : SC} {W' : WX} {X' : Cx}, CxOk Γ ER S' W' X' → JCs Γ ER S' W' X' G cs) (hi2 : ∀ {S' : SC} {W' : WX} {X' : Cx}, CxOk Γ ER S' W' X' → JI Γ ER S' W' X' G it2)
    (hc2 : ∀ {S' : SC} {W' : WX} {X' : Cx}, CxOk Γ ER S' W' X' → JCs Γ ER S' W' X' G cs2) (he : ∀ {S' : SC} {W' : WX} {X' : Cx}, CxOk Γ ER S' W' X' → JE Γ ER S' W' X' G e) {x : Expr} (h : chkE S G (.comp2 t it cs t2 it2 cs2 e) x = true) : Comp2Ok Γ ER S W X G t it cs t2 it2 cs2 e x := by
  have h' : (kComp2 S t t2 (chkI S G it) (fun S' => chkCs S' G cs) (fun S' => chkI S' G it2) (fun S' => chkCs S' G cs2) (fun S' => chkE S' G e) x && comp2B (t.own ++ t2.own) G (infI S.sg G it) (infI S.sg G it2) (mdCs S.sg G cs ++ mdCs S.sg G cs2 ++ (infE S.sg G e).md) && (pairB (infI S.sg G it) t && pairB (infI S.sg G it2) t2)) = true := h
  rw [Bool.and_eq_true, Bool.and_eq_true, Bool.and_eq_true] at h'
  obtain ⟨⟨h1, h2⟩, h3, h4⟩ := h'
  refine ⟨?_, comp2B_of h2, pair_of h3, pair_of h4⟩
  unfold kComp2 at h1
  split at h1
  · rename_i elt tg iter ifs k tg2 iter2 ifs2 k2 scope pos
    simp only [Bool.and_eq_true] at h1
    obtain ⟨⟨⟨⟨⟨⟨⟨⟨⟨q0, q1⟩, q2⟩, q3⟩, q4⟩, q5⟩, q6⟩, q7⟩, q8⟩, q9⟩ := h1
    obtain rfl := of_decide_eq_true q0
    obtain rfl := of_decide_eq_true q1
    obtain ⟨i1, i2⟩ := hi tg iter q2
    refine ⟨elt, tg, iter, ifs, tg2, iter2, ifs2, scope, pos, rfl, i1, i2, i_fold q5, by rw [C.N, C.sc]; exact blkOk_by q9, fun s H Ca cl fp => ?_⟩
    have B := C.blk s H scope Ca cl fp
    exact ⟨pg_tgt B q3, (hc B).all_ ifs q4, (hi2 B tg2 iter2 q5).1, pg_tgt B q6, (hc2 B).all_ ifs2 q7, he B elt q8⟩
  · cases h1
theorem Comp2Ok.lc {t t2 : Tgt} {it it2 : II} {cs cs2 : ICs} {e : IE} {x : Expr} (O : Comp2Ok Γ ER S W X G t it cs t2 it2 cs2 e x) {Q : VK} (q : tM X.K ER W G (infE S.sg G (.comp2 t it cs t2 it2 cs2 e)) (evE Γ (.comp2 t it cs t2 it2 cs2 e)) σ H Q) :
    tLc2 (tIt X.K ER W G (infI S.sg G it) (evI Γ it)) (gT X.K t) (tMt X.K ER W0 G { md := mdCs S.sg G cs } (evCs Γ cs)) (tIt X.K ER W0 G (infI S.sg G it2) (evI Γ it2)) (gT X.K t2) (tMt X.K ER W0 G { md := mdCs S.sg G cs2 } (evCs Γ cs2)) (tM X.K ER W0 G (infE S.sg G e) (evE Γ e)) ((ownOf S (t.own ++ t2.own)).map (·.2)) t2.own σ H Q := by
  rw [own_ix]
  have hB := O.cb
  have m1 : mdCs S.sg G cs = [] := (List.append_eq_nil_iff.mp (List.append_eq_nil_iff.mp hB.md).1).1
  have m2 : mdCs S.sg G cs2 = [] := (List.append_eq_nil_iff.mp (List.append_eq_nil_iff.mp hB.md).1).2
  have m3 : (infE S.sg G e).md = [] := (List.append_eq_nil_iff.mp hB.md).2
  refine m_comp2 O.tp O.tp2 hB ?_ q
  show ({ al := _, el := _, md := (infI S.sg G it).md ++ mdCs S.sg G cs ++ (infI S.sg G it2).md ++ mdCs S.sg G cs2 ++ (infE S.sg G e).md, fr := true, ls := true } : Inf) = _
  rw [m1, m2, m3, hB.im2, List.append_nil, List.append_nil, List.append_nil, List.append_nil]
theorem own2_ix {t t2 : Tgt} : ∀ i ∈ t2.own, i ∈ (ownOf S (t.own ++ t2.own)).map (·.2) := fun i h => by
  rw [own_ix]
  exact own2 i h
theorem s_comp2 (C : CxOk Γ ER S W X) {t t2 : Tgt} {it it2 : II} {cs cs2 : ICs} {e : IE} {x : Expr} (O : Comp2Ok Γ ER S W X G t it cs t2 it2 cs2 e x) : PE X x (tM X.K ER W G (infE S.sg G (.comp2 t it cs t2 it2 cs2 e)) (evE Γ (.comp2 t it cs t2 it2 cs2 e))) := by
  obtain ⟨elt, tg, iter, ifs, tg1, iter1, ifs1, scope, pos, rfl, i1, i2, i3, bo, B⟩ := O.ex
  exact (pe_lc2 C.calm (by rw [C.N]; exact C.nd) i1 bo own2_ix (fun s H Ca cl fp => (B s H Ca cl fp).1) (fun s H Ca cl fp => (B s H Ca cl fp).2.1) (fun s H Ca cl fp => (B s H Ca cl fp).2.2.1) (fun s H Ca cl fp => (B s H Ca cl fp).2.2.2.1) (fun s H Ca cl fp => (B s H Ca cl fp).2.2.2.2.1) (fun s H Ca cl fp => (B s H Ca cl fp).2.2.2.2.2) (fun v => i2 X.env v) i3).imp fun σ H Q q => O.lc q
/-! ### dicts -/
theorem pairs_snoc {k v : PyData} : ∀ {st : List PyData} {kvs : List (PyData × PyData)}, pairsOf st = some kvs → pairsOf (st ++ [.tuple [k, v]]) = some (kvs ++ [(k, v)])
  | [], kvs, h => by
    cases h
    rfl
  | .tuple [a, b] :: st, kvs, h => by
    simp only [pairsOf, Option.map_eq_some_iff] at h
    obtain ⟨m, h1, rfl⟩ := h
    show (pairsOf (st ++ [.tuple [k, v]])).map _ = _
    rw [pairs_snoc h1]
    rfl
  | .none :: _, _, h => by simp [pairsOf] at h
  | .bool _ :: _, _, h => by simp [pairsOf] at h
  | .int _ :: _, _, h => by simp [pairsOf] at h
  | .str _ :: _, _, h => by simp [pairsOf] at h
  | .list _ :: _, _, h => by simp [pairsOf] at h
  | .dict _ :: _, _, h => by simp [pairsOf] at h
  | .tuple [] :: _, _, h => by simp [pairsOf] at h
  | .tuple [_] :: _, _, h => by simp [pairsOf] at h
  | .tuple (_ :: _ :: _ :: _) :: _, _, h => by simp [pairsOf] at h
theorem pairs_len : ∀ {st : List PyData} {kvs : List (PyData × PyData)}, pairsOf st = some kvs → kvs.length = st.length
  | [], kvs, h => by
    cases h
    rfl
  | .tuple [a, b] :: st, kvs, h => by
    simp only [pairsOf, Option.map_eq_some_iff] at h
    obtain ⟨m, h1, rfl⟩ := h
    rw [List.length_cons, List.length_cons, pairs_len h1]
  | .none :: _, _, h => by simp [pairsOf] at h
  | .bool _ :: _, _, h => by simp [pairsOf] at h
  | .int _ :: _, _, h => by simp [pairsOf] at h
  | .str _ :: _, _, h => by simp [pairsOf] at h
  | .list _ :: _, _, h => by simp [pairsOf] at h
  | .dict _ :: _, _, h => by simp [pairsOf] at h
  | .tuple [] :: _, _, h => by simp [pairsOf] at h
  | .tuple [_] :: _, _, h => by simp [pairsOf] at h
  | .tuple (_ :: _ :: _ :: _) :: _, _, h => by simp [pairsOf] at h
theorem putD_len {k v : PyData} {kvs : List (PyData × PyData)} : (putD kvs k v).length ≤ kvs.length + 1 := by
  unfold putD
  split
  · rw [List.length_map]; omega
  · rw [List.length_append]; simp
theorem putsD_len {more : List (PyData × PyData)} : ∀ {kvs : List (PyData × PyData)}, (putsD kvs more).length ≤ kvs.length + more.length := by
  induction more with
  | nil => intro kvs; exact Nat.le_add_right _ _
  | cons p more ih =>
    intro kvs
    have := ih (kvs := putD kvs p.1 p.2)
    have h := putD_len (k := p.1) (v := p.2) (kvs := kvs)
    show (putsD (putD kvs p.1 p.2) more).length ≤ _
    rw [List.length_cons]
    omega
theorem turn_entry {σ0 : L2.St} {is al : List Nat} {k v : IE} (hk : (infE sg G k).md = []) (hv : (infE sg G v).md = []) (hM : Z.M D) (hZ : Z.H D = none) (his : dis is G = true) (h1 : ∀ i ∈ (infE sg G v).al, i ∈ al) (h2 : ∀ i ∈ (infE sg G v).el, i ∈ al) :
    Turn K Z G D (AccK K Z G al σ0 D) σ0 is (fun ρ => (evE Γ k ρ).bnd fun a => (evE Γ v a.2).bnd fun b => if keyOk a.1 = true then .ok ([PyData.tuple [a.1, b.1]], b.2) else .stuck)
      (fun σ H Q => tM K ER W0 G (infE sg G k) (evE Γ k) σ H fun y H7 => tM K ER W0 G (infE sg G v) (evE Γ v) σ H7 fun z H8 => ∃ kvs q, y = kV q ∧ H8 D = some (.dK kvs) ∧ kvs.length < sizeLine ∧ Q (upd H8 D (.dK (putK kvs q z)))) := by
  intro ρ σ H st Q sg' R a w
  refine ⟨Z, ρ, R, Wp.ex0 ((wp_bnd w).mono fun p wp y H3 ry _ _ _ R3 k3 => ?_)⟩
  refine ⟨Z, p.2, R3, Wp.ex0 ((wp_bnd wp).mono fun q wq z H4 rz _ _ _ R4 k4 => ?_)⟩
  have g3 : ∀ a o, H a = some o → H3 a = some o := fun a o e => k3 a o e fun i hi => by rw [hk] at hi; cases hi
  have g4 : ∀ a o, H3 a = some o → H4 a = some o := fun a o e => k4 a o e fun i hi => by rw [hv] at hi; cases hi
  by_cases ho : keyOk p.1 = true
  · rw [if_pos ho] at wq
    have wq' : (st ++ [PyData.tuple [p.1, q.1]]).length ≤ lim ∧ ∀ H3, Rep K Z G (Hx.wipe q.2 is) (L2.wipe σ is) H3 → GrowD D H H3 → AccK K Z G al σ0 D (st ++ [PyData.tuple [p.1, q.1]]) H3 → Q H3 := wq
    obtain ⟨kvs, vs, e0, eD, rk⟩ := AccK.mono a fun a o e => g4 a o (g3 a o e)
    obtain ⟨kk, hkk, hy⟩ := keyOk_key ho
    have hl := wq'.1
    rw [List.length_append, List.length_singleton] at hl
    have hz := lim_line
    have l1 := RepK.length rk
    have l2 := putsD_len (kvs := []) (more := kvs)
    have l3 := pairs_len e0
    rw [List.length_nil] at l2
    have yk : y = kV kk := hy (ry.toD (A' := fun _ => False) (fun _ z => z.elim) fun _ z => z.elim)
    refine ⟨vs, kk, yk, eD, by omega, wq'.2 _ ((R4.wipe his).turnM hM hZ) (fun b o e n => by rw [upd_ne n]; exact g4 b o (g3 b o e)) ⟨_, _, pairs_snoc e0, upd_same, ?_⟩⟩
    have kA : KeepA (Av Z G al σ0) H4 (upd H4 D (.dK (putK vs kk z))) := keepA_upd (.inl hM)
    have es : putsD [] (kvs ++ [(p.1, q.1)]) = putD (putsD [] kvs) p.1 q.1 := by
      unfold putsD
      rw [List.foldl_append]
      rfl
    rw [es]
    refine RepK.put hkk (RepD.keep kA _ _ (rz.toD (fun b z => ?_) fun b z => ?_)) (RepK.keep kA _ _ rk)
    · exact Av.mono h1 (sg'.av.mpr z)
    · exact Av.mono h2 (sg'.av.mpr z)
  · rw [if_neg ho] at wq
    exact wq.elim
theorem m_dcomp2 {fi f : Inf} {t t2 : Tgt} {it2 : II} {k v : IE} {mi : Env → Res (List PyData × Env)} {Q : VK} (htp : fi.fr = true → tupT t = true) (htp2 : (infI sg G it2).fr = true → tupT t2 = true) (hB : Comp2B (t.own ++ t2.own) G fi (infI sg G it2) ((infE sg G k).md ++ (infE sg G v).md))
    (hf : f = { al := (infE sg G v).al ++ (infE sg G v).el, el := (infE sg G v).al ++ (infE sg G v).el, md := fi.md })
    (hq : tM K ER W G f (fun ρ => (mi ρ).bnd fun p => (turns (d2F Γ t t2 it2 k v) p.1 p.2).calm.bnd fun q => (Res.of (pairsOf q.1)).bnd fun kvs => if kvs.length ≤ lim then .ok (.dict (putsD [] kvs), back p.2 q.2 (t.own ++ t2.own)) else .stuck) σ H Q) :
    tDc2 (tIt K ER W G fi mi) (gT K t) (tMt K ER W0 G { md := mdCs sg G .nil } (evCs Γ .nil)) (tIt K ER W0 G (infI sg G it2) (evI Γ it2)) (gT K t2) (tMt K ER W0 G { md := mdCs sg G .nil } (evCs Γ .nil)) (tM K ER W0 G (infE sg G k) (evE Γ k)) (tM K ER W0 G (infE sg G v) (evE Γ v)) (t.own ++ t2.own) t2.own σ H Q := by
  obtain ⟨Z, ρ, R, w0⟩ := hq
  have m1 : (infE sg G k).md = [] := (List.append_eq_nil_iff.mp hB.md).1
  have m2 : (infE sg G v).md = [] := (List.append_eq_nil_iff.mp hB.md).2
  refine ⟨Z, ρ, R, (wp_bnd w0).mono fun p w1 J H1 Gd Y ok R1 k1 => ?_⟩
  intro D hD
  have w2 := wp_calm w1
  have nZ := R1.newH hD
  have hM : (Z.plus D).M D := .inr rfl
  have own2' : dis t2.own G = true := List.all_eq_true.mpr fun i hi => List.all_eq_true.mp hB.own i (own2 (t := t) i hi)
  have Am : ∀ {st : List PyData} {H H' : Hp}, AccK K (Z.plus D) G ((infE sg G v).al ++ (infE sg G v).el) σ D st H → (∀ a o, H a = some o → H' a = some o) → AccK K (Z.plus D) G ((infE sg G v).al ++ (infE sg G v).el) σ D st H' := fun a k => a.mono k
  have t0 := turn_entry (K := K) (Γ := Γ) (sg := sg) (ER := ER) (σ0 := σ) (is := t2.own) (k := k) (v := v) (al := (infE sg G v).al ++ (infE sg G v).el) m1 m2 hM nZ own2' (fun i hi => List.mem_append_left _ hi) fun i hi => List.mem_append_right _ hi
  have t1 := turn_tests (A := AccK K (Z.plus D) G ((infE sg G v).al ++ (infE sg G v).el) σ D) (cs := .nil) (Γ := Γ) (ER := ER) (sg := sg) rfl own2' Am t0
  have t2' := turn_clause (A := AccK K (Z.plus D) G ((infE sg G v).al ++ (infE sg G v).el) σ D) (Γ := Γ) (ER := ER) (is := t.own ++ t2.own) htp2 hB.im2 hM hB.el2 hB.own own2 Am t1
  have t3 := turn_tests (A := AccK K (Z.plus D) G ((infE sg G v).al ++ (infE sg G v).el) σ D) (cs := .nil) (Γ := Γ) (ER := ER) (sg := sg) rfl hB.own Am t2'
  refine level (A := AccK K (Z.plus D) G ((infE sg G v).al ++ (infE sg G v).el) σ D) (st := []) (Qd := Q (.ref D)) htp (ok.plus hD) hM hB.el hB.own (fun i hi => List.mem_append_left _ hi) (fun i _ => rfl) Am t3 (R1.enter hD) ⟨[], [], rfl, upd_same, by show RepK _ _ _ [] []; simp only [RepK]⟩ (w2.mono fun q w3 => ?_)
  obtain ⟨kvs, e0, w4⟩ := wp_of w3
  by_cases hl : kvs.length ≤ lim
  · rw [if_pos hl] at w4
    have l3 := pairs_len e0
    refine ⟨by show q.1.length ≤ lim; omega, fun H3 R3 g3 a3 => ?_⟩
    obtain ⟨kvs', vs, e1, eD, rk⟩ := a3
    have e1' : pairsOf q.1 = some kvs' := e1
    rw [e0] at e1'
    cases e1'
    have k3 : Kp [] σ H1 H3 := fun a o ea _ => by
      have ne : a ≠ D := fun z => by rw [z, hD] at ea; cases ea
      exact g3 a o (by rw [upd_ne ne]; exact ea) ne
    have lv := R1.leave hD R3 hB.own (md := []) rfl k3
    subst hf
    exact w4 (.ref D) H3 ⟨D, vs, rfl, ⟨.inl eD, R1.new hD⟩, RepK.mono (fun a z => av_plus.mpr (.inl z)) _ _ rk⟩ nofun nofun nofun lv.minus (k1.trans (k3.mono (by simp)))
  · rw [if_neg hl] at w4
    exact w4.elim
structure Dcomp2Ok (Γ : List Callee) (ER : ERel) (S : SC) (W : WX) (X : Cx) (G : List Nat) (t : Tgt) (it : II) (t2 : Tgt) (it2 : II) (k v : IE) (x : Expr) : Prop where
  ex : ∃ kx vx tg iter tg1 iter1 scope pos, x = DC2 kx vx tg iter [] tg1 iter1 [] scope pos ∧ PI X tg iter (tIt X.K ER W G (infI S.sg G it) (evI Γ it)) ∧ (∀ env v, foldedSetIterable iter env v = pure v) ∧ (∀ env v, foldedSetIterable iter1 env v = pure v) ∧ BlkOk X.N X.env.scope scope (ownOf S (t.own ++ t2.own)) ∧
    ∀ (s : Shared) (H : Hp) (C : Addr) (cl : List (Str × Addr)) (fp : List Addr), DBlk (X.blk s H scope (compEnvC scope cl C X.env) fp) tg (gT X.K t) [] (tMt X.K ER W0 G { md := mdCs S.sg G .nil } (evCs Γ .nil)) tg1 iter1 (tIt X.K ER W0 G (infI S.sg G it2) (evI Γ it2)) (gT X.K t2) [] (tMt X.K ER W0 G { md := mdCs S.sg G .nil } (evCs Γ .nil)) kx vx (tM X.K ER W0 G (infE S.sg G k) (evE Γ k)) (tM X.K ER W0 G (infE S.sg G v) (evE Γ v))
  cb : Comp2B (t.own ++ t2.own) G (infI S.sg G it) (infI S.sg G it2) ((infE S.sg G k).md ++ (infE S.sg G v).md)
  tp : (infI S.sg G it).fr = true → tupT t = true
  tp2 : (infI S.sg G it2).fr = true → tupT t2 = true
theorem dcomp2_ok (C : CxOk Γ ER S W X) {t t2 : Tgt} {it it2 : II} {k v : IE} (hi : JI Γ ER S W X G it) (hi2 : ∀ {S' : SC} {W' : WX} {X' : Cx}, CxOk Γ ER S' W' X' → JI Γ ER S' W' X' G it2) (hk : ∀ {S' : SC} {W' : WX} {X' : Cx}, CxOk Γ ER S' W' X' → JE Γ ER S' W' X' G k) (hv : ∀ {S' : SC} {W' : WX} {X' : Cx}, CxOk Γ ER S' W' X' → JE Γ ER S' W' X' G v) {x : Expr}
    (h : chkE S G (.dcomp2 t it t2 it2 k v) x = true) : Dcomp2Ok Γ ER S W X G t it t2 it2 k v x := by
  have h' : (kDcomp2 S t t2 (chkI S G it) (fun S' => chkI S' G it2) (fun S' => chkE S' G k) (fun S' => chkE S' G v) x && comp2B (t.own ++ t2.own) G (infI S.sg G it) (infI S.sg G it2) ((infE S.sg G k).md ++ (infE S.sg G v).md) && (pairB (infI S.sg G it) t && pairB (infI S.sg G it2) t2)) = true := h
  rw [Bool.and_eq_true, Bool.and_eq_true, Bool.and_eq_true] at h'
  obtain ⟨⟨h1, h2⟩, h3, h4⟩ := h'
  refine ⟨?_, comp2B_of h2, pair_of h3, pair_of h4⟩
  unfold kDcomp2 at h1
  split at h1
  · rename_i kx vx tg iter a1 tg2 iter2 a2 scope pos
    simp only [Bool.and_eq_true] at h1
    obtain ⟨⟨⟨⟨⟨⟨⟨⟨q0, q1⟩, q2⟩, q3⟩, q4⟩, q5⟩, q6⟩, q7⟩, q8⟩ := h1
    obtain rfl := of_decide_eq_true q0
    obtain rfl := of_decide_eq_true q1
    obtain ⟨i1, i2⟩ := hi tg iter q2
    refine ⟨kx, vx, tg, iter, tg2, iter2, scope, pos, rfl, i1, i2, i_fold q4, by rw [C.N, C.sc]; exact blkOk_by q8, fun s H Ca cl fp => ?_⟩
    have B := C.blk s H scope Ca cl fp
    exact ⟨pg_tgt B q3, cs_nil.all_ [] rfl, (hi2 B tg2 iter2 q4).1, pg_tgt B q5, cs_nil.all_ [] rfl, hk B kx q6, hv B vx q7⟩
  · cases h1
theorem Dcomp2Ok.dc {t t2 : Tgt} {it it2 : II} {k v : IE} {x : Expr} (O : Dcomp2Ok Γ ER S W X G t it t2 it2 k v x) {Q : VK} (q : tM X.K ER W G (infE S.sg G (.dcomp2 t it t2 it2 k v)) (evE Γ (.dcomp2 t it t2 it2 k v)) σ H Q) :
    tDc2 (tIt X.K ER W G (infI S.sg G it) (evI Γ it)) (gT X.K t) (tMt X.K ER W0 G { md := mdCs S.sg G .nil } (evCs Γ .nil)) (tIt X.K ER W0 G (infI S.sg G it2) (evI Γ it2)) (gT X.K t2) (tMt X.K ER W0 G { md := mdCs S.sg G .nil } (evCs Γ .nil)) (tM X.K ER W0 G (infE S.sg G k) (evE Γ k)) (tM X.K ER W0 G (infE S.sg G v) (evE Γ v)) ((ownOf S (t.own ++ t2.own)).map (·.2)) t2.own σ H Q := by
  rw [own_ix]
  have hB := O.cb
  have m1 : (infE S.sg G k).md = [] := (List.append_eq_nil_iff.mp hB.md).1
  have m2 : (infE S.sg G v).md = [] := (List.append_eq_nil_iff.mp hB.md).2
  refine m_dcomp2 O.tp O.tp2 hB ?_ q
  show ({ al := _, el := _, md := (infI S.sg G it).md ++ (infI S.sg G it2).md ++ (infE S.sg G k).md ++ (infE S.sg G v).md } : Inf) = _
  rw [m1, m2, hB.im2, List.append_nil, List.append_nil, List.append_nil]
theorem s_dcomp2 (C : CxOk Γ ER S W X) {t t2 : Tgt} {it it2 : II} {k v : IE} {x : Expr} (O : Dcomp2Ok Γ ER S W X G t it t2 it2 k v x) : PE X x (tM X.K ER W G (infE S.sg G (.dcomp2 t it t2 it2 k v)) (evE Γ (.dcomp2 t it t2 it2 k v))) := by
  obtain ⟨kx, vx, tg, iter, tg1, iter1, scope, pos, rfl, i1, i2, i3, bo, B⟩ := O.ex
  exact (pe_dc2 C.calm (by rw [C.N]; exact C.nd) i1 bo own2_ix B (fun v => i2 X.env v) i3).imp fun σ H Q q => O.dc q
end
end Hx

set_option Elab.async false
set_option linter.all false
set_option maxRecDepth 100000
set_option maxHeartbeats 4000000
/-! H19: every expression that is checked does what it means. -/
namespace Hx
open PySem PySem.Spec PyProof.Rows L2
section
variable {Γ : List Callee} {ER : ERel} {G : List Nat}
mutual
theorem sndE : ∀ (e : IE) {S : SC} {W : WX} {X : Cx}, CxOk Γ ER S W X → JE Γ ER S W X G e
  | .v i, _, _, _, C => fun x h => s_var C h
  | .lit c, _, _, _, C => fun x h => s_lit C h
  | .con n c, _, _, _, C => fun x h => s_con C h
  | .tup es, _, _, _, C => s_tup (sndEs es C)
  | .lst es, _, _, _, C => s_lst (sndEs es C)
  | .edct, _, _, _, C => s_edct
  | .neg a, _, _, _, C => s_neg (sndE a C)
  | .bin o a b, _, _, _, C => s_bin (sndE a C) (sndE b C)
  | .cmp o a b, _, _, _, C => s_cmp C (sndE a C) (sndE b C)
  | .chain o p a b c, _, _, _, C => s_chain C (sndE a C) (sndE b C) (sndE c C)
  | .isN pos a, _, _, _, C => s_isN (sndE a C)
  | .not a, _, _, _, C => s_not (sndE a C)
  | .and a es, _, _, _, C => s_and (sndE a C) (sndB es C) fun ys h k => es_some h k
  | .or a es, _, _, _, C => s_or (sndE a C) (sndB es C) fun ys h k => es_some h k
  | .ite c a b, _, _, _, C => s_ite (sndT c C) (sndE a C) (sndE b C)
  | .call f es, _, _, _, C => s_call C fun br => sndRs es br 0 C
  | .callk f es k, _, _, _, C => s_callk C (sndEs es C) (sndE k C)
  | .bi f es, _, _, _, C => s_bi C (sndEs es C)
  | .mk t (.rng es), _, _, _, C => s_mk C (sndEs es C)
  | .mk t (.seq a), _, _, _, C => fun x h => by
    have h' : (_ && rngB (.seq a)) = true := h
    rw [Bool.and_eq_true] at h'
    cases h'.2
  | .mk t (.zip a), _, _, _, C => fun x h => by
    have h' : (_ && rngB (.zip a)) = true := h
    rw [Bool.and_eq_true] at h'
    cases h'.2
  | .mk t (.enm a), _, _, _, C => fun x h => by
    have h' : (_ && rngB (.enm a)) = true := h
    rw [Bool.and_eq_true] at h'
    cases h'.2
  | .isa t a, _, _, _, C => s_isa C (sndE a C)
  | .idx a i, _, _, _, C => s_idx (sndE a C) (sndE i C)
  | .sl a lo hi, _, _, _, C => s_sl (sndE a C) (sndO lo C) (sndO hi C)
  | .rev a, _, _, _, C => s_rev (sndE a C)
  | .ixof a b, _, _, _, C => s_ixof (sndE a C) (sndE b C)
  | .dzip a b, _, _, _, C => s_dzip C (sndE a C) (sndE b C)
  | .dget a k, _, _, _, C => s_dget C (sndE a C) (sndE k C)
  | .comp t it cs e, _, _, _, C => s_comp C (sndI it C) (fun C' => sndCs cs C') (fun C' => sndE e C')
  | .comp2 t it cs t2 it2 cs2 e, _, _, _, C => fun x h => s_comp2 C (comp2_ok C (sndI it C) (fun C' => sndCs cs C') (fun C' => sndI it2 C') (fun C' => sndCs cs2 C') (fun C' => sndE e C') h)
  | .dcomp2 t it t2 it2 k v, _, _, _, C => fun x h => s_dcomp2 C (dcomp2_ok C (sndI it C) (fun C' => sndI it2 C') (fun C' => sndE k C') (fun C' => sndE v C') h)
  | .pop i es, _, _, _, C => s_pop C (sndEs es C)
theorem sndEs : ∀ (es : IEs) {S : SC} {W : WX} {X : Cx}, CxOk Γ ER S W X → JEs Γ ER S W X G es
  | .nil, _, _, _, C => es_nil
  | .cons a es, _, _, _, C => es_cons (sndE a C) (sndEs es C)
theorem sndRs : ∀ (es : IEs) (br : List Nat) (n : Nat) {S : SC} {W : WX} {X : Cx}, CxOk Γ ER S W X → JRs Γ ER S W X G br n es
  | .nil, _, _, _, _, _, C => rs_nil
  | .cons a es, br, n, _, _, _, C => rs_cons (sndE a C) (sndRs es br (n + 1) C)
theorem sndB : ∀ (es : IEs) {S : SC} {W : WX} {X : Cx}, CxOk Γ ER S W X → JB Γ ER S W X G es
  | .nil, _, _, _, C => b_nil
  | .cons a es, _, _, _, C => b_cons (sndE a C) (sndB es C)
theorem sndT : ∀ (c : IC) {S : SC} {W : WX} {X : Cx}, CxOk Γ ER S W X → JT Γ ER S W X G c
  | .val (.cmp o a b), _, _, _, C => t_val (s_cmp C (sndE a C) (sndE b C)) fun _ => b_cmp C (sndE a C) (sndE b C)
  | .val (.chain o p a b c), _, _, _, C => t_val (s_chain C (sndE a C) (sndE b C) (sndE c C)) fun _ => b_chain C (sndE a C) (sndE b C) (sndE c C)
  | .val (.v i), _, _, _, C => t_val (sndE (.v i) C) fun z => by cases z
  | .val (.lit c), _, _, _, C => t_val (sndE (.lit c) C) fun z => by cases z
  | .val (.con n c), _, _, _, C => t_val (sndE (.con n c) C) fun z => by cases z
  | .val (.tup es), _, _, _, C => t_val (sndE (.tup es) C) fun z => by cases z
  | .val (.lst es), _, _, _, C => t_val (sndE (.lst es) C) fun z => by cases z
  | .val .edct, _, _, _, C => t_val (sndE .edct C) fun z => by cases z
  | .val (.neg a), _, _, _, C => t_val (sndE (.neg a) C) fun z => by cases z
  | .val (.bin o a b), _, _, _, C => t_val (sndE (.bin o a b) C) fun z => by cases z
  | .val (.isN pos a), _, _, _, C => t_val (sndE (.isN pos a) C) fun z => by cases z
  | .val (.not a), _, _, _, C => t_val (sndE (.not a) C) fun z => by cases z
  | .val (.and a es), _, _, _, C => t_val (sndE (.and a es) C) fun z => by cases z
  | .val (.or a es), _, _, _, C => t_val (sndE (.or a es) C) fun z => by cases z
  | .val (.ite c a b), _, _, _, C => t_val (sndE (.ite c a b) C) fun z => by cases z
  | .val (.call f es), _, _, _, C => t_val (sndE (.call f es) C) fun z => by cases z
  | .val (.callk f es k), _, _, _, C => t_val (sndE (.callk f es k) C) fun z => by cases z
  | .val (.bi f es), _, _, _, C => t_val (sndE (.bi f es) C) fun z => by cases z
  | .val (.mk t it), _, _, _, C => t_val (sndE (.mk t it) C) fun z => by cases z
  | .val (.isa t a), _, _, _, C => t_val (sndE (.isa t a) C) fun z => by cases z
  | .val (.idx a i), _, _, _, C => t_val (sndE (.idx a i) C) fun z => by cases z
  | .val (.sl a lo hi), _, _, _, C => t_val (sndE (.sl a lo hi) C) fun z => by cases z
  | .val (.rev a), _, _, _, C => t_val (sndE (.rev a) C) fun z => by cases z
  | .val (.ixof a b), _, _, _, C => t_val (sndE (.ixof a b) C) fun z => by cases z
  | .val (.dzip a b), _, _, _, C => t_val (sndE (.dzip a b) C) fun z => by cases z
  | .val (.dget a b), _, _, _, C => t_val (sndE (.dget a b) C) fun z => by cases z
  | .val (.comp t it cs e), _, _, _, C => t_val (sndE (.comp t it cs e) C) fun z => by cases z
  | .val (.comp2 t it cs t2 it2 cs2 e), _, _, _, C => t_val (sndE (.comp2 t it cs t2 it2 cs2 e) C) fun z => by cases z
  | .val (.dcomp2 t it t2 it2 k v), _, _, _, C => t_val (sndE (.dcomp2 t it t2 it2 k v) C) fun z => by cases z
  | .val (.pop i es), _, _, _, C => t_val (sndE (.pop i es) C) fun z => by cases z
  | .not c, _, _, _, C => t_not (sndT c C)
  | .and c cs, _, _, _, C => t_and (sndT c C) (sndCs cs C)
  | .or c cs, _, _, _, C => t_or (sndT c C) (sndCs cs C)
theorem sndCs : ∀ (cs : ICs) {S : SC} {W : WX} {X : Cx}, CxOk Γ ER S W X → JCs Γ ER S W X G cs
  | .nil, _, _, _, C => cs_nil
  | .cons c cs, _, _, _, C => cs_cons (sndT c C) (sndCs cs C)
theorem sndO : ∀ (o : IO) {S : SC} {W : WX} {X : Cx}, CxOk Γ ER S W X → JO Γ ER S W X G o
  | .non, _, _, _, C => o_non
  | .som e, _, _, _, C => o_som (sndE e C)
theorem sndI : ∀ (it : II) {S : SC} {W : WX} {X : Cx}, CxOk Γ ER S W X → JI Γ ER S W X G it
  | .seq a, _, _, _, C => i_seq (sndE a C)
  | .rng es, _, _, _, C => i_rng C (sndEs es C)
  | .zip es, _, _, _, C => i_zip C (sndEs es C)
  | .enm a, _, _, _, C => i_enm C (sndE a C)
end
end
end Hx

set_option Elab.async false
set_option linter.all false
set_option maxRecDepth 100000
set_option maxHeartbeats 4000000
/-! H20: slots that lose and win lists; a loop's zone; what statements promise. -/
namespace Hx
open PySem PySem.Spec PyProof.Rows L2
section
variable {K : PySem.W.Frag} {Z : Zone} {G G' : List Nat} {ρ : Env} {σ : L2.St} {H H' : Hp}
theorem av_sub {al : List Nat} (h : ∀ i ∈ G', i ∈ G) (ha : ∀ i ∈ G', i ∉ al) : ∀ a, Av Z G' [] σ a → Av Z G al σ a := fun a z => by
  rcases z with z | ⟨i, h1, _, h3⟩
  · exact .inl z
  · exact .inr ⟨i, h i h1, ha i h1, h3⟩
/-- fewer slots own their lists -/
theorem Rep.weak (R : Rep K Z G ρ σ H) (h : ∀ i ∈ G', i ∈ G) (hB : ∀ i p, (i, p) ∈ Z.B → i ∈ G') : Rep K Z G' ρ σ H := by
  have mo : ∀ a, Av Z G' [] σ a → Av Z G [] σ a := av_sub h (by simp)
  refine ⟨R.len, fun i d e n => ?_, fun i g => ?_, fun i j p a b => R.dis i j p (h i a) (h j b), fun i p g => R.m0 i p (h i g), fun i p g => R.fr0 i p (h i g), fun i p b => ⟨hB i p b, (R.byr i p b).2⟩, R.keep, R.m1⟩
  · by_cases g : i ∈ G
    · obtain ⟨p, xs, vs, e1, a, e2, r⟩ := R.own i g
      rw [e] at e1
      cases e1
      refine ⟨_, a, ?_⟩
      simp only [RepD]
      refine ⟨p, vs, rfl, LLA.of e2 fun z => ?_, RepA.mono mo _ _ r⟩
      rcases z with z | ⟨j, h1, _, h3⟩
      · exact R.m0 i p g a z
      · have := R.dis i j p g (h j h1) a h3
        exact n (this ▸ h1)
    · obtain ⟨v, e1, r⟩ := R.val i d e g
      exact ⟨v, e1, RepD.mono mo _ _ r⟩
  · obtain ⟨p, xs, vs, e1, a, e2, r⟩ := R.own i (h i g)
    exact ⟨p, xs, vs, e1, a, e2, RepA.mono mo _ _ r⟩
/-- a new list is given to a slot that owns none -/
theorem Rep.take {p : Addr} {xs : List PyData} {vs : List V} {i : Nat} (R : Rep K (Z.plus p) G ρ σ H) (hi : i ∉ G) (hl : i < ρ.length) (e : H p = some (.lst vs)) (r : RepA K (Av (Z.plus p) G [] σ) H xs vs) (hZ : Z.H p = none) (hM : ¬ Z.M p) (hB : ∀ q, (i, q) ∉ Z.B) :
    Rep K Z (i :: G) (ρ.set i (some (.list xs))) (σ.set i (some (.ref p))) H := by
  have hls : i < σ.length := by rw [R.len]; exact hl
  have at' : At (σ.set i (some (.ref p))) i p := List.getElem?_set_self hls
  have ne : ∀ {j : Nat}, j ≠ i → (σ.set i (some (.ref p)))[j]? = σ[j]? := fun h => List.getElem?_set_ne fun z => h z.symm
  have neG : ∀ {j : Nat}, j ∈ G → j ≠ i := fun g z => hi (by rw [← z]; exact g)
  have atG : ∀ {j : Nat} {a : Addr}, j ∈ G → (At (σ.set i (some (.ref p))) j a ↔ At σ j a) := fun g => by
    unfold At
    rw [ne (neG g)]
  have mo : ∀ a, Av Z (i :: G) [] (σ.set i (some (.ref p))) a → Av (Z.plus p) G [] σ a := fun a z => by
    rcases z with z | ⟨j, h1, _, h3⟩
    · exact .inl (.inl z)
    · by_cases hj : j = i
      · subst hj
        exact .inl (.inr (at_inj h3 at'))
      · have g := (List.mem_cons.mp h1).resolve_left hj
        exact .inr ⟨j, g, by simp, (atG g).mp h3⟩
  have mem : ∀ {j : Nat}, j ∈ i :: G → j ≠ i → j ∈ G := fun h k => (List.mem_cons.mp h).resolve_left k
  refine ⟨by rw [List.length_set, List.length_set]; exact R.len, fun j d e1 n => ?_, fun j g => ?_, fun j k q gj gk a b => ?_, fun j q g a => ?_, fun j q g a => ?_, fun j q b => ?_, R.keep, fun a z => R.m1 a (.inl z)⟩
  · have hj : j ≠ i := fun z => n (by rw [z]; exact List.mem_cons_self)
    rw [List.getElem?_set_ne fun z => hj z.symm] at e1
    obtain ⟨v, e2, r2⟩ := R.val j d e1 fun z => n (List.mem_cons_of_mem _ z)
    exact ⟨v, by rw [ne hj]; exact e2, RepD.mono mo _ _ r2⟩
  · by_cases hj : j = i
    · subst hj
      exact ⟨p, xs, vs, List.getElem?_set_self hl, at', e, RepA.mono mo _ _ r⟩
    · obtain ⟨q, ys, ws, e1, a, e2, r2⟩ := R.own j (mem g hj)
      exact ⟨q, ys, ws, by rw [List.getElem?_set_ne fun z => hj z.symm]; exact e1, (atG (mem g hj)).mpr a, e2, RepA.mono mo _ _ r2⟩
  · by_cases hj : j = i
    · by_cases hk : k = i
      · rw [hj, hk]
      · subst hj
        have := at_inj a at'
        subst this
        exact absurd (.inr rfl) (R.m0 k _ (mem gk hk) ((atG (mem gk hk)).mp b))
    · by_cases hk : k = i
      · subst hk
        have := at_inj b at'
        subst this
        exact absurd (.inr rfl) (R.m0 j _ (mem gj hj) ((atG (mem gj hj)).mp a))
      · exact R.dis j k q (mem gj hj) (mem gk hk) ((atG (mem gj hj)).mp a) ((atG (mem gk hk)).mp b)
  · by_cases hj : j = i
    · subst hj
      rw [at_inj a at']
      exact hM
    · exact fun z => R.m0 j q (mem g hj) ((atG (mem g hj)).mp a) (.inl z)
  · by_cases hj : j = i
    · subst hj
      rw [at_inj a at']
      exact .inl hZ
    · exact R.fr0 j q (mem g hj) ((atG (mem g hj)).mp a)
  · have b1 := R.byr j q b
    have hj : j ≠ i := neG b1.1
    exact ⟨List.mem_cons_of_mem _ b1.1, (atG b1.1).mpr b1.2⟩
/-- the zone of a loop's body: the heap at its start without the lists that may change -/
noncomputable def Zone.loop (Z : Zone) (g : List Nat) (σ : L2.St) (H : Hp) : Zone := { Z with H := open Classical in fun a => if ∃ i, i ∈ g ∧ At σ i a then none else H a }
theorem loop_some {g : List Nat} {a : Addr} {o : HO} : (Z.loop g σ H).H a = some o ↔ H a = some o ∧ ¬ ∃ i, i ∈ g ∧ At σ i a := by
  unfold Zone.loop
  dsimp only
  constructor
  · intro h
    split at h
    · cases h
    · rename_i n
      exact ⟨h, n⟩
  · rintro ⟨h, n⟩
    rw [if_neg n]
    exact h
theorem av_loop {g al : List Nat} {τ : L2.St} {G0 : List Nat} {H0 : Hp} {σ0 : L2.St} {a : Addr} : Av (Z.loop g σ0 H0) G0 al τ a ↔ Av Z G0 al τ a := Iff.rfl
theorem Rep.inLoop (R : Rep K Z G ρ σ H) : Rep K (Z.loop G σ H) G ρ σ H := by
  refine ⟨R.len, R.val, R.own, R.dis, R.m0, fun i p g a => .inl ?_, R.byr, fun a o e _ => (loop_some.mp e).1, R.m1⟩
  cases e : (Z.loop G σ H).H p with
  | none => rfl
  | some o => exact absurd ⟨i, g, a⟩ (loop_some.mp e).2
/-- behind the loop the old zone stands again -/
theorem Rep.outLoop {ρ' : Env} {σ' : L2.St} (R : Rep K Z G ρ σ H) (R' : Rep K (Z.loop G σ H) G' ρ' σ' H') : Rep K Z G' ρ' σ' H' := by
  refine ⟨R'.len, R'.val, R'.own, R'.dis, R'.m0, fun i p g a => ?_, R'.byr, fun a o e n => ?_, R'.m1⟩
  · by_cases q : ∃ j, j ∈ G ∧ At σ j p
    · obtain ⟨j, gj, aj⟩ := q
      rcases R.fr0 j p gj aj with z | z
      · exact .inl z
      · obtain ⟨g2, a2⟩ := R'.byr j p z
        have := R'.dis i j p g g2 a a2
        subst this
        exact .inr z
    · rcases R'.fr0 i p g a with z | z
      · left
        have hn : H p = none := by
          cases e : H p with
          | none => rfl
          | some o =>
            rw [loop_some.mpr ⟨e, q⟩] at z
            cases z
        exact R.newH hn
      · exact .inr z
  · have e1 := R.keep a o e n
    refine R'.keep a o (loop_some.mpr ⟨e1, ?_⟩) n
    rintro ⟨i, g, q⟩
    rcases R.fr0 i a g q with z | z
    · rw [z] at e; cases e
    · exact n i z
end
end Hx

set_option Elab.async false
set_option linter.all false
set_option maxRecDepth 100000
set_option maxHeartbeats 4000000
/-! H21: statements: what is known behind them, checks, the rules of plain ones. -/
namespace L2
open PySem PySem.Spec PyProof.Rows
theorem PS.impL {X : Cx} {e : Stmt} {t t' : TS} (h : PS X e t') (k : ∀ D σ H, σ.length = X.N.length → t D σ H → t' D σ H) : PS X e t := ⟨fun pins s σ H D I q => h.run pins s σ H D I (k D σ H I.len q)⟩
end L2
namespace Hx
open PySem PySem.Spec PyProof.Rows L2
def filt (G al : List Nat) : List Nat := G.filter fun j => !al.contains j
theorem filt_of {G al : List Nat} {i : Nat} : i ∈ filt G al ↔ i ∈ G ∧ i ∉ al := by
  unfold filt
  rw [List.mem_filter]
  simp
def joinO : Option (List Nat) → Option (List Nat) → Option (List Nat)
  | none, x => x
  | x, none => x
  | some a, some b => some (a.filter fun i => b.contains i)
/-! ### what statements promise -/
def ZM (Z : Zone) (a : Addr) : Prop := Z.M a ∨ ∃ i, (i, a) ∈ Z.B
structure Ret (K : PySem.W.Frag) (Z : Zone) (fr : Bool) (ρ : Env) (d : PyData) (v : V) (H : Hp) : Prop where
  val : RepD K (ZM Z) H d v
  fr : fr = true → Frsh K (ZM Z) Z.H H d v ∧ ∀ p, v = .ref p → ¬ ZM Z p
  out : ∀ i p, (i, p) ∈ Z.B → ∃ xs vs, ρ[i]? = some (some (.list xs)) ∧ H p = some (.lst vs) ∧ RepA K (ZM Z) H xs vs
  keep : ∀ a o, Z.H a = some o → (∀ i, (i, a) ∉ Z.B) → H a = some o
  m1 : ∀ a, Z.M a → ∃ o, H a = some o
def PostF (K : PySem.W.Frag) (Z : Zone) (fr : Bool) (o : Option (List Nat)) (D : Ends) : Flow → Prop
  | .nx ρ => ∀ G', o = some G' → ∀ σ H, Rep K Z G' ρ σ H → D.nx σ H
  | .rt d ρ => ∀ v H, Ret K Z fr ρ d v H → D.rt v H
def ExS (K : PySem.W.Frag) (ER : ERel) (W : WX) (Z : Zone) : Str → List PyData → Env → Prop := fun c xs ρ => ∀ cls dx σ G H, ER c xs cls dx H → Rep K Z G ρ σ H → W cls dx σ H
def BrOk (Z : Zone) (br : List Nat) : Prop := ∀ i p, (i, p) ∈ Z.B → i ∈ br
def tS (K : PySem.W.Frag) (ER : ERel) (W : WX) (G br : List Nat) (fr : Bool) (o : Option (List Nat)) (m : Env → Res Flow) : TS := fun D σ H => ∃ Z ρ, Rep K Z G ρ σ H ∧ BrOk Z br ∧ Wp (ExS K ER W Z) (PostF K Z fr o D) (m ρ)
theorem wp_ex {α : Type} {K : PySem.W.Frag} {ER : ERel} {W : WX} {Z : Zone} {G : List Nat} {σ : L2.St} {P : α → Prop} {r : Res α} (h : Wp (ExS K ER W Z) P r) : Wp (ExW K ER W Z G σ) P r := by
  cases r with
  | ok a => exact h
  | exc c xs ρ => exact fun cls dx H' er R => h cls dx σ G H' er R
  | stuck => exact h
theorem wp_bndS {α β : Type} {K : PySem.W.Frag} {ER : ERel} {W : WX} {Z : Zone} {G : List Nat} {σ : L2.St} {P : β → Prop} {r : Res α} {f : α → Res β} (h : Wp (ExS K ER W Z) P (r.bnd f)) : Wp (ExW K ER W Z G σ) (fun a => Wp (ExS K ER W Z) P (f a)) r := by
  cases r with
  | ok a => exact h
  | exc c xs ρ => exact fun cls dx H' er R => h cls dx σ G H' er R
  | stuck => exact h
/-! ### what is owned behind a statement -/
mutual
def outS (sg : List Sig) (G : List Nat) : IS → Option (List Nat)
  | .asg i e => some ((if (infE sg G e).fr = true then [i] else []) ++ filt G (i :: (infE sg G e).al))
  | .unp is e => some (filt G (is ++ ((infE sg G e).al ++ (infE sg G e).el)))
  | .setix _ _ e => some (filt G ((infE sg G e).al ++ (infE sg G e).el))
  | .aug _ _ _ => some G
  | .ex _ => some G
  | .app _ e => some (filt G ((infE sg G e).al ++ (infE sg G e).el))
  | .ext _ e => some (filt G (infE sg G e).el)
  | .ret _ => none
  | .ite _ a b => joinO (outSs sg G a) (outSs sg G b)
  | .for_ g _ _ _ => some g
  | .whl g _ _ => some g
  | .raise _ _ => none
  | .nev => none
  | .pas => some G
def outSs (sg : List Sig) (G : List Nat) : ISs → Option (List Nat)
  | .nil => some G
  | .cons s r => (outS sg G s).bind fun G' => outSs sg G' r
end
/-! ### rules -/
section
variable {Γ : List Callee} {ER : ERel} {S : SC} {W : WX} {X : Cx} {G br : List Nat} {fr : Bool}
variable {K : PySem.W.Frag} {Z : Zone} {ρ : Env} {σ : L2.St} {H H' : Hp}
/-- a value stored -/
theorem store_rep {f : Inf} {i : Nat} {d : PyData} {v : V} {ρ0 : Env} (R0 : Rep K Z G ρ0 σ H) (R : Rep K Z G ρ σ H') (rv : RepT K (Av Z G f.al σ) (Av Z G f.el σ) H' d v) (hfr : f.fr = true → Frsh K (Av Z G f.el σ) H H' d v ∧ ∀ q, v = .ref q → Rep K (Z.plus q) G ρ σ H')
    (hal : subL f.el f.al = true) (hb : BrOk Z br) (hd : dis br (i :: f.al) = true) (hi : i < ρ.length) : Rep K Z ((if f.fr = true then [i] else []) ++ filt G (i :: f.al)) (ρ.set i (some d)) (σ.set i (some v)) H' := by
  have sub : ∀ j ∈ filt G (i :: f.al), j ∈ G := fun j hj => (filt_of.mp hj).1
  have hB : ∀ j p, (j, p) ∈ Z.B → j ∈ filt G (i :: f.al) := fun j p b => filt_of.mpr ⟨(R.byr j p b).1, dis_of hd j (hb j p b)⟩
  have ni : i ∉ filt G (i :: f.al) := fun z => (filt_of.mp z).2 List.mem_cons_self
  have nal : ∀ j ∈ filt G (i :: f.al), j ∉ f.al := fun j hj z => (filt_of.mp hj).2 (List.mem_cons_of_mem _ z)
  by_cases hf : f.fr = true
  · rw [if_pos hf]
    obtain ⟨⟨p, xs, vs, e1, e2, e3, e4, r⟩, rp⟩ := hfr hf
    subst e1 e2
    have Rp := rp p rfl
    have Rw : Rep K (Z.plus p) (filt G (i :: f.al)) ρ σ H' := Rp.weak sub hB
    refine Rw.take ni hi e4 (RepA.mono (fun a z => ?_) _ _ r) (R0.newH e3) (fun z => ?_) fun q z => ni (hB i q z)
    · rcases av_plus.mp z with z | z
      · exact .inl (av_sub sub (fun j hj z' => nal j hj (subL_of hal j z')) a z)
      · exact .inr z
    · obtain ⟨o, e⟩ := R0.m1 p z
      rw [e3] at e; cases e
  · rw [if_neg hf]
    exact (R.weak sub hB).setv ni (rv.toD (fun a z => av_sub sub nal a z) fun a z => av_sub sub (fun j hj z' => nal j hj (subL_of hal j z')) a z)
theorem m_asg {i : Nat} {e : IE} {D : Ends} (hn : σ.length = X.N.length) (hi : i < X.N.length) (hal : subL (infE S.sg G e).el (infE S.sg G e).al = true) (hd : dis br (i :: (infE S.sg G e).al) = true)
    (q : tS X.K ER W G br fr (outS S.sg G (.asg i e)) (exec Γ (.asg i e)) D σ H) : tM X.K ER W G (infE S.sg G e) (evE Γ e) σ H fun v H1 => D.nx (σ.set i (some v)) H1 := by
  obtain ⟨Z, ρ, R, hb, w⟩ := q
  have w' : Wp (ExS X.K ER W Z) (PostF X.K Z fr (outS S.sg G (.asg i e)) D) ((evE Γ e ρ).bnd fun p => .ok (.nx (p.2.set i (some p.1)))) := w
  refine ⟨Z, ρ, R, (wp_bndS w').mono fun p w1 v H1 rv hfr _ _ R1 k1 => ?_⟩
  exact w1 _ rfl _ _ (store_rep R R1 rv hfr hal hb hd (by rw [← R1.len, hn]; exact hi))
theorem m_ret {e : IE} {D : Ends} {o : Option (List Nat)} (hd : dis br (infE S.sg G e).al = true) (hal : subL (infE S.sg G e).el (infE S.sg G e).al = true) (hf : fr = true → (infE S.sg G e).fr = true)
    (q : tS X.K ER W G br fr o (exec Γ (.ret e)) D σ H) : tM X.K ER W G (infE S.sg G e) (evE Γ e) σ H D.rt := by
  obtain ⟨Z, ρ, R, hb, w⟩ := q
  have w' : Wp (ExS X.K ER W Z) (PostF X.K Z fr o D) ((evE Γ e ρ).bnd fun p => .ok (.rt p.1 p.2)) := w
  refine ⟨Z, ρ, R, (wp_bndS w').mono fun p w1 v H1 rv hfr _ _ R1 k1 => ?_⟩
  have sub : ∀ a, ZM Z a → Av Z G (infE S.sg G e).al σ a := fun a z => by
    rcases z with z | ⟨i, b⟩
    · exact .inl z
    · exact .inr ⟨i, (R1.byr i a b).1, dis_of hd i (hb i a b), (R1.byr i a b).2⟩
  have sub2 : ∀ a, ZM Z a → Av Z G (infE S.sg G e).el σ a := fun a z => av_el hal a (sub a z)
  have sub0 : ∀ a, ZM Z a → Av Z G [] σ a := fun a z => Av.mono (by simp) (sub a z)
  refine w1 v H1 ⟨rv.toD sub sub2, fun z => ?_, fun i p b => ?_, R1.keep, R1.m1⟩
  · obtain ⟨⟨p', xs, vs, e1, e2, e3, e4, r⟩, _⟩ := hfr (hf z)
    refine ⟨⟨p', xs, vs, e1, e2, R.newH e3, e4, RepA.mono (fun a z => z.imp (sub2 a) id) _ _ r⟩, fun q eq z => ?_⟩
    rw [e2] at eq
    cases eq
    have R0 : ∀ a, ZM Z a → ∃ o, H a = some o := fun a z => by
      rcases z with z | ⟨i, b⟩
      · exact R.m1 a z
      · obtain ⟨g, a'⟩ := R.byr i a b
        obtain ⟨p2, _, _, _, a2, e5, _⟩ := R.own i g
        obtain rfl := at_inj a2 a'
        exact ⟨_, e5⟩
    obtain ⟨o, e⟩ := R0 p' z
    rw [e3] at e; cases e
  · obtain ⟨g, a⟩ := R1.byr i p b
    obtain ⟨p', xs, vs, e1, a', e2, r⟩ := R1.own i g
    obtain rfl := at_inj a' a
    exact ⟨xs, vs, e1, e2, RepA.mono sub0 _ _ r⟩
/-- an owned list handed back -/
theorem m_retv {i : Nat} {D : Ends} {o : Option (List Nat)} (hi : i ∈ G) (hd : i ∉ br) (q : tS X.K ER W G br fr o (exec Γ (.ret (.v i))) D σ H) : tVar i σ H D.rt := by
  obtain ⟨Z, ρ, R, hb, w⟩ := q
  obtain ⟨p, xs, vs, e1, a, e2, r⟩ := R.own i hi
  have w' : Wp (ExS X.K ER W Z) (PostF X.K Z fr o D) ((match ρ[i]? with
    | some (some d) => (.ok (d, ρ) : Res (PyData × Env))
    | _ => .stuck).bnd fun p => .ok (.rt p.1 p.2)) := w
  rw [e1] at w'
  have w1 : ∀ v H, Ret X.K Z fr ρ (.list xs) v H → D.rt v H := w'
  have sub0 : ∀ a, ZM Z a → Av Z G [] σ a := fun a z => by
    rcases z with z | ⟨j, b⟩
    · exact .inl z
    · exact .inr ⟨j, (R.byr j a b).1, by simp, (R.byr j a b).2⟩
  have nz : ¬ ZM Z p := fun z => by
    rcases z with z | ⟨j, b⟩
    · exact R.m0 i p hi a z
    · have := R.dis i j p hi (R.byr j p b).1 a (R.byr j p b).2
      exact hd (this ▸ hb j p b)
  have zh : Z.H p = none := (R.fr0 i p hi a).resolve_right fun b => hd (hb i p b)
  refine ⟨_, a, w1 _ H ⟨?_, fun _ => ⟨⟨p, xs, vs, rfl, rfl, zh, e2, RepA.mono (fun a z => ?_) _ _ r⟩, fun q eq => by cases eq; exact nz⟩, fun j q b => ?_, R.keep, R.m1⟩⟩
  · simp only [RepD]
    exact ⟨p, vs, rfl, LLA.of e2 nz, RepA.mono sub0 _ _ r⟩
  · rcases z with z | z
    · exact sub0 a z
    · rw [z]
      exact .inr ⟨i, hi, by simp, by assumption⟩
  · obtain ⟨g, a'⟩ := R.byr j q b
    obtain ⟨p', ys, us, e3, a2, e4, r2⟩ := R.own j g
    obtain rfl := at_inj a2 a'
    exact ⟨ys, us, e3, e4, RepA.mono sub0 _ _ r2⟩
end
end Hx

set_option Elab.async false
set_option linter.all false
set_option maxRecDepth 100000
set_option maxHeartbeats 4000000
/-! H22: statements that change lists in place, name op= e, dropped values. -/
namespace L2
open PySem PySem.Spec PyProof.Rows
/-- xs.extend(ys), ys any list that is read -/
def rExtendL (K : PySem.W.Frag) : V → List V → Hp → VK → Prop := fun x vs H Q => ∃ l b xs zs, x = .ref l ∧ vs = [.ref b] ∧ H l = some (.lst xs) ∧ Hx.LL K H b zs ∧ xs.length + zs.length ≤ sizeLine ∧ Q .non (upd H l (.lst (xs ++ zs)))
theorem mt_extendL {X : Cx} : MtR X "list.extend" (rExtendL X.K) := by
  intro pins s σ H x vs v us Q I rx rv h
  obtain ⟨l, b, xs, zs, rfl, rfl, hH, hB, hz, q⟩ := h
  cases rx
  obtain ⟨u, rfl, ru⟩ := rv.one
  cases ru
  obtain ⟨z, its, n, r, hl, e⟩ := I.lstM hH
  obtain ⟨z2, its2, n2, r2, hl2, e2⟩ := Hx.lst_of I hB
  have hsz : its.toArray.size + its2.toArray.size ≤ sizeLine := by rw [List.size_toArray, List.size_toArray]; omega
  have hlong : ¬ (!its.toArray.isEmpty && Builtin.List.listTooLong (its.toArray.size + its2.toArray.size)) = true := by
    rw [notLongL hsz, Bool.and_false]
    exact Bool.false_ne_true
  refine call_meets F.slot_list_extend ⟨_, e, rfl⟩ F.entry_list_extend (F.args_list_extend_2 _ _)
    (AutoSeq1.list_extend_list_list_0 l its.toArray n b its2.toArray n2 hlong (by rw [List.size_toArray]; omega) (by omega)) ⟨e, e2, ?_⟩
  refine ⟨.non, _, I.lset (its' := its ++ its2) hH e (by simp) (r.append r2) ?_, rfl, q⟩
  rw [List.length_append]
  omega
/-- name op= int -/
def ipC (C : Int → Int → Prop) (f : Int → Int → Int) : TIp := fun x y H Q => ∃ i j, x = .int i ∧ y = .int j ∧ C i j ∧ Q (.int (f i j)) H
theorem ip_mulW {X : Cx} : PIp X .Mult (ipC CMulW fun i j => i * j) := by
  intro pins s σ H x y v u Q I r1 r2 h
  obtain ⟨i, j, e1, e2, hc, q⟩ := h
  subst e1; subst e2
  obtain ⟨t, rfl⟩ := r1
  obtain ⟨t', rfl⟩ := r2
  exact PyProof.Rows.imul_int ⟨.int _, H, I.tok _, ⟨_, rfl⟩, q⟩ hc.ok
end L2
namespace Hx
open PySem PySem.Spec PyProof.Rows L2
section
variable {Γ : List Callee} {ER : ERel} {S : SC} {W : WX} {X : Cx} {G br : List Nat} {fr : Bool}
variable {K : PySem.W.Frag} {Z : Zone} {ρ : Env} {σ : L2.St} {H H' : Hp}
theorem m_app {i : Nat} {e : IE} {D : Ends} (hi : i ∈ G) (hn : i ∉ (infE S.sg G e).al ++ (infE S.sg G e).el) (hd : dis br ((infE S.sg G e).al ++ (infE S.sg G e).el) = true)
    (q : tS X.K ER W G br fr (outS S.sg G (.app i e)) (exec Γ (.app i e)) D σ H) : tBM X.K "list" rAppend (tVar i) (tCons (tM X.K ER W G (infE S.sg G e) (evE Γ e)) tNil) σ H fun _ H1 => D.nx σ H1 := by
  obtain ⟨Z, ρ, R, hb, w⟩ := q
  obtain ⟨p0, xs0, vs0, e0, a0, h0, _⟩ := R.own i hi
  refine ⟨_, a0, .inl ⟨rfl, vs0, SqL.of h0⟩, Z, ρ, R, ?_⟩
  have w' : Wp (ExS X.K ER W Z) (PostF X.K Z fr (outS S.sg G (.app i e)) D) ((evE Γ e ρ).bnd fun p => match p.2[i]? with
    | some (some (.list xs)) => if xs.length < lim then .ok (.nx (p.2.set i (some (.list (xs ++ [p.1]))))) else .stuck
    | _ => .stuck) := w
  refine (wp_bndS w').mono fun p w1 v H1 rv _ _ _ R1 k1 => ?_
  obtain ⟨p', xs, vs, e1, a, e2, r⟩ := R1.own i hi
  obtain rfl := at_inj a a0
  rw [e1] at w1
  dsimp only at w1
  have hl : xs.length < lim := by
    rcases Nat.lt_or_ge xs.length lim with z | z
    · exact z
    · rw [if_neg (by omega)] at w1; exact w1.elim
  rw [if_pos hl] at w1
  have hz := lim_line
  refine ⟨p', vs, v, rfl, rfl, e2, by rw [← r.length]; omega, ?_⟩
  have sub : ∀ j ∈ filt G ((infE S.sg G e).al ++ (infE S.sg G e).el), j ∈ G := fun j hj => (filt_of.mp hj).1
  have hB : ∀ j p, (j, p) ∈ Z.B → j ∈ filt G ((infE S.sg G e).al ++ (infE S.sg G e).el) := fun j p b => filt_of.mpr ⟨(R1.byr j p b).1, dis_of hd j (hb j p b)⟩
  have Rw := R1.weak sub hB
  have mo := av_sub (Z := Z) (al := []) (σ := σ) sub (by simp)
  refine w1 _ rfl _ _ (Rw.write (filt_of.mpr ⟨hi, hn⟩) a ((RepA.mono mo _ _ r).append (RepA.cons (rv.toD ?_ ?_) RepA.nil)))
  · exact av_sub sub fun j hj z => (filt_of.mp hj).2 (List.mem_append_left _ z)
  · exact av_sub sub fun j hj z => (filt_of.mp hj).2 (List.mem_append_right _ z)
theorem m_ext {i : Nat} {e : IE} {D : Ends} (hi : i ∈ G) (hn : i ∉ (infE S.sg G e).el) (hd : dis br (infE S.sg G e).el = true)
    (q : tS X.K ER W G br fr (outS S.sg G (.ext i e)) (exec Γ (.ext i e)) D σ H) : tBM X.K "list" (rExtendL X.K) (tVar i) (tCons (tM X.K ER W G (infE S.sg G e) (evE Γ e)) tNil) σ H fun _ H1 => D.nx σ H1 := by
  obtain ⟨Z, ρ, R, hb, w⟩ := q
  obtain ⟨p0, xs0, vs0, e0, a0, h0, _⟩ := R.own i hi
  refine ⟨_, a0, .inl ⟨rfl, vs0, SqL.of h0⟩, Z, ρ, R, ?_⟩
  have w' : Wp (ExS X.K ER W Z) (PostF X.K Z fr (outS S.sg G (.ext i e)) D) ((evE Γ e ρ).bnd fun p => match p.2[i]?, p.1 with
    | some (some (.list xs)), .list ys => if xs.length + ys.length ≤ lim then .ok (.nx (p.2.set i (some (.list (xs ++ ys))))) else .stuck
    | _, _ => .stuck) := w
  refine (wp_bndS w').mono fun p w1 v H1 rv _ _ _ R1 k1 => ?_
  obtain ⟨p', xs, vs, e1, a, e2, r⟩ := R1.own i hi
  obtain rfl := at_inj a a0
  rw [e1] at w1
  cases hp : p.1 with
  | list ys =>
    rw [hp] at w1 rv
    dsimp only at w1
    have hl : xs.length + ys.length ≤ lim := by
      rcases Nat.lt_or_ge lim (xs.length + ys.length) with z | z
      · rw [if_neg (by omega)] at w1; exact w1.elim
      · exact z
    rw [if_pos hl] at w1
    have hz := lim_line
    obtain ⟨t, ws, rfl, s1, ra⟩ := rv
    refine ⟨p', t, vs, ws, rfl, rfl, e2, s1.ll, by rw [← r.length, ← ra.length]; omega, ?_⟩
    have sub : ∀ j ∈ filt G (infE S.sg G e).el, j ∈ G := fun j hj => (filt_of.mp hj).1
    have hB : ∀ j p, (j, p) ∈ Z.B → j ∈ filt G (infE S.sg G e).el := fun j p b => filt_of.mpr ⟨(R1.byr j p b).1, dis_of hd j (hb j p b)⟩
    have Rw := R1.weak sub hB
    have mo := av_sub (Z := Z) (al := []) (σ := σ) sub (by simp)
    exact w1 _ rfl _ _ (Rw.write (filt_of.mpr ⟨hi, hn⟩) a ((RepA.mono mo _ _ r).append (RepA.mono (av_sub sub fun j hj z => (filt_of.mp hj).2 z) _ _ ra)))
  | _ => rw [hp] at w1; exact w1.elim
theorem m_ex {e : IE} {D : Ends} (q : tS X.K ER W G br fr (outS S.sg G (.ex e)) (exec Γ (.ex e)) D σ H) : tM X.K ER W G (infE S.sg G e) (evE Γ e) σ H fun _ H1 => D.nx σ H1 := by
  obtain ⟨Z, ρ, R, hb, w⟩ := q
  have w' : Wp (ExS X.K ER W Z) (PostF X.K Z fr (outS S.sg G (.ex e)) D) ((evE Γ e ρ).bnd fun p => .ok (.nx p.2)) := w
  exact ⟨Z, ρ, R, (wp_bndS w').mono fun p w1 v H1 rv _ _ _ R1 k1 => w1 _ rfl _ _ R1⟩
theorem m_setix {i : Nat} {k e : IE} {D : Ends} (hi : i ∈ G) (hn : i ∉ (infE S.sg G e).al ++ (infE S.sg G e).el) (hd : dis br ((infE S.sg G e).al ++ (infE S.sg G e).el) = true) (hk : aft G (infE S.sg G e) (infE S.sg G k) = true)
    (q : tS X.K ER W G br fr (outS S.sg G (.setix i k e)) (exec Γ (.setix i k e)) D σ H) : tM X.K ER W G (infE S.sg G e) (evE Γ e) σ H fun v H1 => gSub (tVar i) (tM X.K ER W G (infE S.sg G k) (evE Γ k)) rSetL v σ H1 D.nx := by
  obtain ⟨Z, ρ, R, hb, w⟩ := q
  obtain ⟨m1, m2, m3⟩ := aft_of hk
  have w' : Wp (ExS X.K ER W Z) (PostF X.K Z fr (outS S.sg G (.setix i k e)) D) ((evE Γ e ρ).bnd fun p => (evE Γ k p.2).bnd fun q => match q.2[i]?, q.1 with
    | some (some (.list xs)), .int n => (Res.of (L2.ixN xs.length n)).bnd fun j => .ok (.nx (q.2.set i (some (.list (xs.set j p.1)))))
    | _, _ => .stuck) := w
  refine ⟨Z, ρ, R, (wp_bndS w').mono fun p w1 v H1 rv _ _ _ R1 k1 => ?_⟩
  obtain ⟨p0, xs0, vs0, e0, a0, h0, _⟩ := R1.own i hi
  refine ⟨_, a0, Z, p.2, R1, (wp_bndS w1).mono fun q w2 u H2 ru _ _ _ R2 k2 => ?_⟩
  obtain ⟨p', xs, vs, e1, a, e2, r⟩ := R2.own i hi
  obtain rfl := at_inj a a0
  rw [e1] at w2
  have rv' := rv.keep (k2.av m2 (dis_l m3)) (k2.av m2 (dis_r m3))
  cases hq : q.1 with
  | int n =>
    rw [hq] at w2 ru
    dsimp only at w2
    obtain rfl : u = .int n := ru
    cases hj : L2.ixN xs.length n with
    | none => rw [hj] at w2; exact w2.elim
    | some j =>
      rw [hj] at w2
      refine ⟨p', vs, n, j, rfl, rfl, e2, by rw [← r.length]; exact hj, ?_⟩
      have sub : ∀ j ∈ filt G ((infE S.sg G e).al ++ (infE S.sg G e).el), j ∈ G := fun j hj => (filt_of.mp hj).1
      have hB : ∀ j p, (j, p) ∈ Z.B → j ∈ filt G ((infE S.sg G e).al ++ (infE S.sg G e).el) := fun j p b => filt_of.mpr ⟨(R2.byr j p b).1, dis_of hd j (hb j p b)⟩
      have Rw := R2.weak sub hB
      have mo := av_sub (Z := Z) (al := []) (σ := σ) sub (by simp)
      have w3 : PostF X.K Z fr (outS S.sg G (.setix i k e)) D (.nx (q.2.set i (some (.list (xs.set j p.1))))) := w2
      refine w3 _ rfl _ _ (Rw.write (filt_of.mpr ⟨hi, hn⟩) a ((RepA.mono mo _ _ r).set (rv'.toD ?_ ?_) j))
      · exact av_sub sub fun j hj z => (filt_of.mp hj).2 (List.mem_append_left _ z)
      · exact av_sub sub fun j hj z => (filt_of.mp hj).2 (List.mem_append_right _ z)
  | _ => rw [hq] at w2; exact w2.elim
end
end Hx

set_option Elab.async false
set_option linter.all false
set_option maxRecDepth 100000
set_option maxHeartbeats 4000000
/-! H23: name op= e, tuple targets, if, sequences, loops. -/
namespace Hx
open PySem PySem.Spec PyProof.Rows L2
section
variable {Γ : List Callee} {ER : ERel} {S : SC} {W : WX} {X : Cx} {G br : List Nat} {fr : Bool}
variable {K : PySem.W.Frag} {Z : Zone} {ρ : Env} {σ : L2.St} {H H' : Hp}
/-- name op= e for ints -/
def augP : BOp → Option (Operator × (Int → Int → Prop) × (Int → Int → Int))
  | .add => some (.Add, fun _ _ => True, fun i j => i + j)
  | .sub => some (.Sub, fun _ _ => True, fun i j => i - j)
  | .mul => some (.Mult, CMulW, fun i j => i * j)
  | _ => none
theorem ip_aug {o : BOp} {p : Operator} {C : Int → Int → Prop} {f : Int → Int → Int} (h : augP o = some (p, C, f)) : PIp X p (ipC C f) := by
  cases o with
  | add =>
    cases h
    intro pins s σ H x y v u Q I r1 r2 ⟨i, j, e1, e2, _, q⟩
    exact ip_add pins s σ H x y v u Q I r1 r2 ⟨i, j, e1, e2, q⟩
  | sub =>
    cases h
    intro pins s σ H x y v u Q I r1 r2 ⟨i, j, e1, e2, _, q⟩
    exact ip_sub pins s σ H x y v u Q I r1 r2 ⟨i, j, e1, e2, q⟩
  | mul =>
    cases h
    exact ip_mulW
  | _ => cases h
theorem aug_int {o : BOp} {p : Operator} {C : Int → Int → Prop} {f : Int → Int → Int} (h : augP o = some (p, C, f)) {x y : PyData} {n : Int} (e : binD o x y = some (.int n)) : ∃ i j, x = .int i ∧ y = .int j ∧ C i j ∧ n = f i j := by
  cases o with
  | add =>
    cases h
    cases x with
    | int i =>
      cases y with
      | int j => cases e; exact ⟨i, j, rfl, rfl, trivial, rfl⟩
      | _ => cases e
    | tuple a =>
      cases y with
      | tuple b =>
        simp only [binD] at e
        split at e <;> cases e
      | _ => cases e
    | list a =>
      cases y with
      | list b =>
        simp only [binD] at e
        split at e <;> cases e
      | _ => cases e
    | str a =>
      cases y with
      | str b =>
        simp only [binD] at e
        split at e <;> cases e
      | _ => cases e
    | _ => cases e
  | sub =>
    cases h
    cases x with
    | int i =>
      cases y with
      | int j => cases e; exact ⟨i, j, rfl, rfl, trivial, rfl⟩
      | _ => cases e
    | _ => cases e
  | mul =>
    cases h
    cases x with
    | int i =>
      cases y with
      | int j =>
        simp only [binD] at e
        split at e
        · rename_i hb
          cases e
          exact ⟨i, j, rfl, rfl, by unfold CMulW; unfold bitsOk at hb; simpa using hb, rfl⟩
        · cases e
      | _ => cases e
    | tuple a =>
      cases y with
      | int b =>
        simp only [binD] at e
        split at e <;> cases e
      | _ => cases e
    | _ => cases e
  | _ => cases h
theorem m_aug {o : BOp} {p : Operator} {C : Int → Int → Prop} {f : Int → Int → Int} (ha : augP o = some (p, C, f)) {i : Nat} {e : IE} {D : Ends} (hi : i ∉ G) (hm : subL (infE S.sg G e).md G = true)
    (q : tS X.K ER W G br fr (outS S.sg G (.aug o i e)) (exec Γ (.aug o i e)) D σ H) : tAug i (tM X.K ER W G (infE S.sg G e) (evE Γ e)) (ipC C f) D σ H := by
  obtain ⟨Z, ρ, R, hb, w⟩ := q
  have w' : Wp (ExS X.K ER W Z) (PostF X.K Z fr (outS S.sg G (.aug o i e)) D) (match ρ[i]? with
    | some (some x) => (evE Γ e ρ).bnd fun q => (Res.of (binD o x q.1)).bnd fun d => (match d with
      | .int _ => .ok (.nx (q.2.set i (some d)))
      | _ => .stuck)
    | _ => .stuck) := w
  split at w'
  · rename_i x ex
    obtain ⟨v, ev, rv⟩ := R.val i x ex hi
    refine ⟨v, ev, Z, ρ, R, (wp_bndS w').mono fun q w1 u H1 ru _ _ _ R1 k1 => ?_⟩
    cases eb : binD o x q.1 with
    | none => rw [eb] at w1; exact w1.elim
    | some d =>
      rw [eb] at w1
      cases d with
      | int n =>
        obtain ⟨a, b, rfl, e2, hc, rfl⟩ := aug_int ha eb
        rw [e2] at ru
        obtain rfl : u = .int b := ru
        simp only [RepD] at rv
        subst rv
        have w2 : PostF X.K Z fr (some G) D (.nx (q.2.set i (some (.int (f a b))))) := w1
        exact ⟨a, b, rfl, rfl, hc, w2 _ rfl _ _ (R1.setv hi (by simp only [RepD]))⟩
      | _ => exact w1.elim
  · exact w'.elim
/-- (a, b) = e -/
theorem m_unp {is : List Nat} {e : IE} {D : Ends} (hd : dis br (is ++ ((infE S.sg G e).al ++ (infE S.sg G e).el)) = true)
    (q : tS X.K ER W G br fr (outS S.sg G (.unp is e)) (exec Γ (.unp is e)) D σ H) : tM X.K ER W G (infE S.sg G e) (evE Γ e) σ H fun v H1 => gT X.K (.tup is) v σ H1 D.nx := by
  obtain ⟨Z, ρ, R, hb, w⟩ := q
  have w' : Wp (ExS X.K ER W Z) (PostF X.K Z fr (outS S.sg G (.unp is e)) D) ((evE Γ e ρ).bnd fun p => (Res.of (bindT (.tup is) p.1 p.2)).bnd fun ρ2 => .ok (.nx ρ2)) := w
  refine ⟨Z, ρ, R, (wp_bndS w').mono fun p w1 v H1 rv _ _ _ R1 k1 => ?_⟩
  cases eb : bindT (.tup is) p.1 p.2 with
  | none => rw [eb] at w1; exact w1.elim
  | some ρ2 =>
    rw [eb] at w1
    have sub : ∀ j ∈ filt G (is ++ ((infE S.sg G e).al ++ (infE S.sg G e).el)), j ∈ G := fun j hj => (filt_of.mp hj).1
    have hB : ∀ j p, (j, p) ∈ Z.B → j ∈ filt G (is ++ ((infE S.sg G e).al ++ (infE S.sg G e).el)) := fun j p b => filt_of.mpr ⟨(R1.byr j p b).1, dis_of hd j (hb j p b)⟩
    have Rw := R1.weak sub hB
    refine m_tgt eb (List.all_eq_true.mpr fun j hj => ?_) Rw (.inl (rv.toD ?_ ?_)) fun σ2 R2 _ _ => w1 _ rfl _ _ R2
    · simp only [Bool.not_eq_true', List.contains_eq_mem, decide_eq_false_iff_not]
      exact fun z => (filt_of.mp z).2 (List.mem_append_left _ hj)
    · exact av_sub sub fun j hj z => (filt_of.mp hj).2 (List.mem_append_right _ (List.mem_append_left _ z))
    · exact av_sub sub fun j hj z => (filt_of.mp hj).2 (List.mem_append_right _ (List.mem_append_right _ z))
/-! ### ways that join -/
theorem PostF.joinl {o1 o2 : Option (List Nat)} {D : Ends} {br : List Nat} (hb : BrOk Z br) (h2 : ∀ G', o2 = some G' → subL br G' = true) (h1 : ∀ G', o1 = some G' → subL br G' = true) : ∀ {fl : Flow}, PostF K Z fr (joinO o1 o2) D fl → PostF K Z fr o1 D fl
  | .rt d ρ, h => h
  | .nx ρ, h => fun G' e σ H R => by
    subst e
    cases o2 with
    | none => exact h G' rfl σ H R
    | some G2 =>
      refine h _ rfl σ H (R.weak (fun i hi => (List.mem_filter.mp hi).1) fun i p b => List.mem_filter.mpr ⟨(R.byr i p b).1, ?_⟩)
      simpa using subL_of (h2 G2 rfl) i (hb i p b)
theorem PostF.joinr {o1 o2 : Option (List Nat)} {D : Ends} {br : List Nat} (hb : BrOk Z br) (h2 : ∀ G', o2 = some G' → subL br G' = true) (h1 : ∀ G', o1 = some G' → subL br G' = true) : ∀ {fl : Flow}, PostF K Z fr (joinO o1 o2) D fl → PostF K Z fr o2 D fl
  | .rt d ρ, h => h
  | .nx ρ, h => fun G' e σ H R => by
    subst e
    cases o1 with
    | none => exact h G' rfl σ H R
    | some G1 =>
      refine h _ rfl σ H (R.weak (fun i hi => ?_) fun i p b => List.mem_filter.mpr ⟨subL_of (h1 G1 rfl) i (hb i p b), ?_⟩)
      · simpa using (List.mem_filter.mp hi).2
      · simpa using (R.byr i p b).1
theorem m_ite {c : IC} {a b : ISs} {D : Ends} (h1 : ∀ G', outSs S.sg G a = some G' → subL br G' = true) (h2 : ∀ G', outSs S.sg G b = some G' → subL br G' = true)
    (q : tS X.K ER W G br fr (outS S.sg G (.ite c a b)) (exec Γ (.ite c a b)) D σ H) : tIfS (tMt X.K ER W G { md := mdT S.sg G c } (evT Γ c)) (tS X.K ER W G br fr (outSs S.sg G a) (execs Γ a)) (tS X.K ER W G br fr (outSs S.sg G b) (execs Γ b)) D σ H := by
  obtain ⟨Z, ρ, R, hb, w⟩ := q
  have w' : Wp (ExS X.K ER W Z) (PostF X.K Z fr (joinO (outSs S.sg G a) (outSs S.sg G b)) D) ((evT Γ c ρ).bnd fun p => if p.1 = true then execs Γ a p.2 else execs Γ b p.2) := w
  refine ⟨Z, ρ, R, (wp_bndS w').mono fun p w1 H1 R1 k1 => ?_⟩
  dsimp only
  cases hp : p.1 with
  | true =>
    rw [hp, if_pos rfl] at w1
    rw [if_pos rfl]
    exact ⟨Z, p.2, R1, hb, w1.mono fun fl h => PostF.joinl hb h2 h1 h⟩
  | false =>
    rw [hp, if_neg (by decide)] at w1
    rw [if_neg (by decide)]
    exact ⟨Z, p.2, R1, hb, w1.mono fun fl h => PostF.joinr hb h2 h1 h⟩
end
end Hx

set_option Elab.async false
set_option linter.all false
set_option maxRecDepth 100000
set_option maxHeartbeats 4000000
/-! H24: for. -/
namespace Hx
open PySem PySem.Spec PyProof.Rows L2
section
variable {Γ : List Callee} {ER : ERel} {S : SC} {W : WX} {X : Cx} {G br : List Nat} {fr : Bool}
variable {K : PySem.W.Frag} {Z : Zone} {ρ : Env} {σ : L2.St} {H H' : Hp}
/-- what is handed back out of a loop -/
theorem Ret.outLoop {g : List Nat} {ρ' : Env} {d : PyData} {v : V} (R : Rep K Z g ρ σ H) (r : Ret K (Z.loop g σ H) fr ρ' d v H') : Ret K Z fr ρ' d v H' := by
  refine ⟨r.val, fun z => ?_, r.out, fun a o e n => ?_, r.m1⟩
  · obtain ⟨⟨p, xs, vs, e1, e2, e3, e4, ra⟩, nz⟩ := r.fr z
    refine ⟨⟨p, xs, vs, e1, e2, ?_, e4, ra⟩, nz⟩
    by_cases q : ∃ j, j ∈ g ∧ At σ j p
    · obtain ⟨j, gj, aj⟩ := q
      rcases R.fr0 j p gj aj with z | z
      · exact z
      · exact absurd (.inr ⟨j, z⟩) (nz p e2)
    · have hn : H p = none := by
        cases e : H p with
        | none => rfl
        | some o =>
          rw [loop_some.mpr ⟨e, q⟩] at e3
          cases e3
      exact R.newH hn
  · have e1 := R.keep a o e n
    refine r.keep a o (loop_some.mpr ⟨e1, ?_⟩) n
    rintro ⟨i, gi, q⟩
    rcases R.fr0 i a gi q with z | z
    · rw [z] at e; cases e
    · exact n i z
noncomputable def forF (Γ : List Callee) (t : Tgt) (b : ISs) : PyData → Env → Res Flow := fun x ρ' => (Res.of (bindT t x ρ')).bnd fun ρ2 => execs Γ b ρ2
theorem m_for {g : List Nat} {t : Tgt} {it : II} {b : ISs} {D : Ends} (htp : (infI S.sg G it).fr = true → tupT t = true) (h1 : subL g G = true) (h2 : subL br g = true) (h3 : dis g (infI S.sg G it).al = true) (h4 : dis g (infI S.sg G it).el = true) (h5 : dis t.own g = true) (h6 : ∀ G', outSs S.sg g b = some G' → subL g G' = true)
    (q : tS X.K ER W G br fr (outS S.sg G (.for_ g t it b)) (exec Γ (.for_ g t it b)) D σ H) : tFor (tIt X.K ER W G (infI S.sg G it) (evI Γ it)) (gT X.K t) (tS X.K ER W g br fr (outSs S.sg g b) (execs Γ b)) D σ H := by
  obtain ⟨Z, ρ, R, hb, w⟩ := q
  have w' : Wp (ExS X.K ER W Z) (PostF X.K Z fr (some g) D) ((evI Γ it ρ).bnd fun p => loopF (forF Γ t b) p.1 p.2) := w
  refine ⟨Z, ρ, R, (wp_bndS w').mono fun p w1 J H1 Gd Y ok R1 k1 => ?_⟩
  have Rg : Rep X.K Z g p.2 σ H1 := R1.weak (subL_of h1) fun i p b => subL_of h2 i (hb i p b)
  have kA : ∀ {ρi : Env} {σi : L2.St} {Hi : Hp}, Rep X.K (Z.loop g σ H1) g ρi σi Hi → KeepA (Av Z G (infI S.sg G it).al σ) H1 Hi := fun R' a o e n => by
    have no : ¬ ∃ i, i ∈ g ∧ At σ i a := fun ⟨i, gi, ai⟩ => n (.inr ⟨i, subL_of h1 i gi, dis_of h3 i gi, ai⟩)
    exact R'.keep a o (loop_some.mpr ⟨e, no⟩) fun i b => no ⟨i, (Rg.byr i a b).1, (Rg.byr i a b).2⟩
  refine for_it ok.walk (fun i σi Hi => ∃ ρi, Rep X.K (Z.loop g σ H1) g ρi σi Hi ∧ Wp (ExS X.K ER W Z) (PostF X.K Z fr (some g) D) (loopF (forF Γ t b) (p.1.drop i) ρi)) ?_ ?_ ?_ ?_
  · exact ⟨p.2, Rg.inLoop, by rw [List.drop_zero]; exact w1⟩
  · rintro i σi Hi hi ⟨ρi, R', w⟩
    exact ok.stay Hi (kA R')
  · rintro i x σ0 H0 H2 hi ⟨ρi, R', w⟩ y
    obtain ⟨d, ed, gr, rd⟩ := ok.yld i H0 x H2 (Av (Z.loop g σ H1) g [] σ0) hi (kA R') (fun a z => R'.there z) (fun a o ea na z => by
      rcases z with z | ⟨j, gj, _, aj⟩
      · exact na (.inl z)
      · have inA : ∀ j, j ∈ g → At σ j a → False := fun j gj aj => na (.inr ⟨j, subL_of h1 j gj, dis_of h4 j gj, aj⟩)
        rcases R'.fr0 j a gj aj with z | z
        · by_cases q : ∃ j, j ∈ g ∧ At σ j a
          · obtain ⟨j, gj, aj⟩ := q
            exact inA j gj aj
          · rw [loop_some.mpr ⟨ea, q⟩] at z
            cases z
        · exact inA j (Rg.byr j a z).1 (Rg.byr j a z).2) y
    have hdr : p.1.drop i = d :: p.1.drop (i + 1) := by
      rw [List.drop_eq_getElem_cons hi]
      congr 1
      rw [List.getElem?_eq_getElem hi] at ed
      exact Option.some.inj ed
    rw [hdr] at w
    have w3 : Wp (ExS X.K ER W Z) (PostF X.K Z fr (some g) D) ((forF Γ t b d ρi).bnd fun fl => match fl with
      | .nx ρ1 => loopF (forF Γ t b) (p.1.drop (i + 1)) ρ1
      | .rt d ρ1 => .ok (.rt d ρ1)) := w
    cases eb : bindT t d ρi with
    | none =>
      unfold forF at w3
      rw [eb] at w3
      exact w3.elim
    | some ρ2 =>
      have w4 : Wp (ExS X.K ER W Z) (PostF X.K Z fr (some g) D) ((execs Γ b ρ2).bnd fun fl => match fl with
        | .nx ρ1 => loopF (forF Γ t b) (p.1.drop (i + 1)) ρ1
        | .rt d ρ1 => .ok (.rt d ρ1)) := by
        unfold forF at w3
        rw [eb] at w3
        exact w3
      refine m_tgt eb h5 (R'.grow gr) (rd.imp_right fun z => ⟨htp z.1, z.2⟩) fun σ2 R2 _ _ => ?_
      refine ⟨Z.loop g σ H1, ρ2, R2, hb, ?_⟩
      cases hx : execs Γ b ρ2 with
      | stuck => rw [hx] at w4; exact w4.elim
      | exc c xs ρ3 =>
        rw [hx] at w4
        exact fun cls dx σ3 G3 H3 er R3 => w4 cls dx σ3 G3 H3 er (Rg.outLoop R3)
      | ok fl =>
        rw [hx] at w4
        cases fl with
        | nx ρ3 => exact fun G' e σ3 H3 R3 => ⟨ρ3, R3.weak (subL_of (h6 G' e)) fun i p b => subL_of h2 i (hb i p b), w4⟩
        | rt d' ρ3 => exact fun v H3 r => w4 v H3 (Ret.outLoop Rg r)
  · rintro σi Hi ⟨ρi, R', w⟩
    rw [List.drop_of_length_le (Nat.le_refl _)] at w
    exact w g rfl σi Hi (Rg.outLoop R')
end
end Hx

set_option Elab.async false
set_option linter.all false
set_option maxRecDepth 100000
set_option maxHeartbeats 4000000
/-! H25: while; names stored from a display; the machine's word on exchanged stores. -/
namespace Hx
open PySem PySem.Spec PyProof.Rows L2
section
variable {Γ : List Callee} {ER : ERel} {S : SC} {W : WX} {X : Cx} {G br : List Nat} {fr : Bool}
variable {K : PySem.W.Frag} {Z : Zone} {ρ : Env} {σ : L2.St} {H H' : Hp}
theorem whlS_some {c : Env → Res (Bool × Env)} {b : Env → Res Flow} {E : Str → List PyData → Env → Prop} {P : Flow → Prop} (h : Wp E P (whlS c b ρ)) : ∃ n r, whlN c b n ρ = some r ∧ Wp E P r := by
  unfold whlS at h
  split at h
  · rename_i k
    exact ⟨k.choose, _, k.choose_spec.choose_spec, h⟩
  · exact h.elim
theorem m_whl {g : List Nat} {c : IC} {b : ISs} {D : Ends} (h1 : subL g G = true) (h2 : subL br g = true) (h6 : ∀ G', outSs S.sg g b = some G' → subL g G' = true)
    (q : tS X.K ER W G br fr (outS S.sg G (.whl g c b)) (exec Γ (.whl g c b)) D σ H) : tWhile (tMt X.K ER W g { md := mdT S.sg g c } (evT Γ c)) (tS X.K ER W g br fr (outSs S.sg g b) (execs Γ b)) D σ H := by
  obtain ⟨Z, ρ, R, hb, w⟩ := q
  have w' : Wp (ExS X.K ER W Z) (PostF X.K Z fr (some g) D) (whlS (evT Γ c) (execs Γ b) ρ) := w
  obtain ⟨n, r, hn, hr⟩ := whlS_some w'
  have Rg : Rep X.K Z g ρ σ H := R.weak (subL_of h1) fun i p b => subL_of h2 i (hb i p b)
  refine ⟨fun m σi Hi => ∃ ρi, Rep X.K (Z.loop g σ H) g ρi σi Hi ∧ ∃ r, whlN (evT Γ c) (execs Γ b) m ρi = some r ∧ Wp (ExS X.K ER W Z) (PostF X.K Z fr (some g) D) r, ⟨n, ρ, Rg.inLoop, r, hn, hr⟩, ?_⟩
  rintro m σi Hi ⟨ρi, Ri, r, hn, hr⟩
  cases m with
  | zero => cases hn
  | succ m =>
    have hn' : (match evT Γ c ρi with
      | .ok (true, ρ1) => (match execs Γ b ρ1 with
        | .ok (.nx ρ2) => whlN (evT Γ c) (execs Γ b) m ρ2
        | r => some r)
      | .ok (false, ρ1) => some (.ok (.nx ρ1))
      | .exc x xs ρ1 => some (.exc x xs ρ1)
      | .stuck => some .stuck) = some r := hn
    refine ⟨Z.loop g σ H, ρi, Ri, ?_⟩
    cases hc : evT Γ c ρi with
    | stuck =>
      rw [hc] at hn'
      cases hn'
      exact hr.elim
    | exc x xs ρ1 =>
      rw [hc] at hn'
      cases hn'
      exact fun cls dx H3 er R3 => hr cls dx σi g H3 er (Rg.outLoop R3)
    | ok p =>
      obtain ⟨k, ρ1⟩ := p
      rw [hc] at hn'
      intro H1 R1 k1
      cases k with
      | false =>
        dsimp only
        rw [if_neg (by decide)]
        dsimp only at hn'
        cases hn'
        exact hr g rfl σi H1 (Rg.outLoop R1)
      | true =>
        dsimp only
        rw [if_pos rfl]
        dsimp only at hn' R1
        refine ⟨fun σ3 H3 => ∃ m', m' < m + 1 ∧ ∃ ρi, Rep X.K (Z.loop g σ H) g ρi σ3 H3 ∧ ∃ r, whlN (evT Γ c) (execs Γ b) m' ρi = some r ∧ Wp (ExS X.K ER W Z) (PostF X.K Z fr (some g) D) r, fun σ3 H3 h => h, ?_⟩
        refine ⟨Z.loop g σ H, ρ1, R1, hb, ?_⟩
        cases hx : execs Γ b ρ1 with
        | stuck =>
          rw [hx] at hn'
          cases hn'
          exact hr.elim
        | exc x xs ρ3 =>
          rw [hx] at hn'
          cases hn'
          exact fun cls dx σ3 G3 H3 er R3 => hr cls dx σ3 G3 H3 er (Rg.outLoop R3)
        | ok fl =>
          rw [hx] at hn'
          cases fl with
          | nx ρ3 => exact fun G' e σ3 H3 R3 => ⟨m, Nat.lt_succ_self m, ρ3, R3.weak (subL_of (h6 G' e)) fun i p b => subL_of h2 i (hb i p b), r, hn', hr⟩
          | rt d ρ3 =>
            cases hn'
            exact fun v H3 q => hr v H3 (Ret.outLoop Rg q)
/-- a, b = x, y -/
theorem m_par {is : List Nat} {es : IEs} {D : Ends} (hd : dis br (is ++ ((infE S.sg G (.tup es)).al ++ (infE S.sg G (.tup es)).el)) = true)
    (q : tS X.K ER W G br fr (outS S.sg G (.unp is (.tup es))) (exec Γ (.unp is (.tup es))) D σ H) : tMs X.K ER W G (esF S.sg G es) (infEs S.sg G es).md (evEs Γ es) σ H fun vs H1 => gNs is vs σ H1 D.nx := by
  obtain ⟨Z, ρ, R, hb, w⟩ := q
  have w' : Wp (ExS X.K ER W Z) (PostF X.K Z fr (outS S.sg G (.unp is (.tup es))) D) ((evEs Γ es ρ).bnd fun p => (Res.of (setAll is p.1 p.2)).bnd fun ρ2 => .ok (.nx ρ2)) := by
    have w0 : Wp (ExS X.K ER W Z) (PostF X.K Z fr (outS S.sg G (.unp is (.tup es))) D) (((evEs Γ es ρ).bnd fun p => .ok (.tuple p.1, p.2)).bnd fun p => (Res.of (bindT (.tup is) p.1 p.2)).bnd fun ρ2 => .ok (.nx ρ2)) := w
    cases hr : evEs Γ es ρ with
    | ok p => rw [hr] at w0; exact w0
    | exc c xs ρ' => rw [hr] at w0; exact w0
    | stuck => rw [hr] at w0; exact w0
  refine ⟨Z, ρ, R, (wp_bndS w').mono fun p w1 vs H1 A R1 k1 => ?_⟩
  cases eb : setAll is p.1 p.2 with
  | none => rw [eb] at w1; exact w1.elim
  | some ρ2 =>
    rw [eb] at w1
    have sub : ∀ j ∈ filt G (is ++ ((infE S.sg G (.tup es)).al ++ (infE S.sg G (.tup es)).el)), j ∈ G := fun j hj => (filt_of.mp hj).1
    have hB : ∀ j p, (j, p) ∈ Z.B → j ∈ filt G (is ++ ((infE S.sg G (.tup es)).al ++ (infE S.sg G (.tup es)).el)) := fun j p b => filt_of.mpr ⟨(R1.byr j p b).1, dis_of hd j (hb j p b)⟩
    have Rw := R1.weak sub hB
    refine m_names eb (List.all_eq_true.mpr fun j hj => ?_) Rw (RepA.mono (fun a z => ?_) _ _ A.repA) fun σ2 R2 _ _ => w1 _ rfl _ _ R2
    · simp only [Bool.not_eq_true', List.contains_eq_mem, decide_eq_false_iff_not]
      exact fun z => (filt_of.mp z).2 (List.mem_append_left _ hj)
    · exact av_sub sub (fun j hj z => (filt_of.mp hj).2 (List.mem_append_right _ (List.mem_append_left _ z))) a z
end
/-! ### stores exchanged -/
def isComp : Expr → Bool
  | .ListComp _ _ _ _ => true
  | .SetComp _ _ _ _ => true
  | .DictComp _ _ _ _ _ => true
  | _ => false
theorem sw_plain {x : Expr} (h : isComp x = false) (t : Option Expr) (l : Nat) (env : PySem.Env) : swapsWith x t l env = pure false := by
  cases x <;> first | rfl | cases h
theorem sw_sub {x a b : Expr} {p : Pos} (l : Nat) (env : PySem.Env) : swapsWith x (some (.Subscript a b p)) l env = pure false := by
  cases x <;> rfl
theorem sw_tup {x : Expr} {a : List Expr} {k : Nat} {p : Pos} (l : Nat) (env : PySem.Env) : swapsWith x (some (.Tuple a k p)) l env = pure false := by
  cases x <;> rfl
def locB (sc : Scope) (x : Str) : Bool := match sc.names.lookup x with
  | some .local => true
  | _ => false
theorem locB_of {sc : Scope} {x : Str} (h : locB sc x = true) : sc.names.lookup x = some .local := by
  unfold locB at h
  split at h
  · assumption
  · cases h
def funB (sc : Scope) : Bool := match sc.kind with
  | .function => true
  | _ => false
theorem funB_of {sc : Scope} (h : funB sc = true) : sc.kind = .function := by
  unfold funB at h
  split at h
  · assumption
  · cases h
def cellB (sc : Scope) (x : Str) : Bool := match sc.names.lookup x with
  | some .cell => true
  | _ => false
theorem cellB_of {sc : Scope} {x : Str} (h : cellB sc x = true) : sc.names.lookup x = some .cell := by
  unfold cellB at h
  split at h
  · assumption
  · cases h
theorem sw_cell {x : Expr} {y : Str} {p : Pos} {l : Nat} {env : PySem.Env} (h : env.scope.names.lookup y = some .cell) : swapsWith x (some (.Name y p)) l env = pure false := by
  have ky : env.kindOf y = some .cell := h
  unfold swapsWith
  cases x <;> first | rfl | (simp only [ky]; rw [show ((some NameKind.cell == some NameKind.local) = false) from rfl, Bool.and_false, Bool.false_and, Bool.false_and])
theorem sole {t x : Expr} {l : Nat} {env : PySem.Env} : swapsWithSole [t] x l env = swapsWith x (some t) l env := rfl
theorem st_plain {t x : Expr} {env : PySem.Env} (h : isTup1 x = false) : swappedStores [t] x env = pure none := by
  unfold swappedStores
  cases x with
  | Tuple a b c => cases h
  | _ => cases t <;> rfl
/-- nothing is exchanged: all constants -/
theorem st_folded {ts vs : List Expr} {k k2 : Nat} {p p2 : Pos} {env : PySem.Env} (h : vs.all (foldedForSure 8) = true) : swappedStores [.Tuple ts k p] (.Tuple vs k2 p2) env = pure none := by
  unfold swappedStores
  simp only [h]
  split
  · rfl
  · split
    · rfl
    · split
      · rfl
      · rfl
theorem st_long {ts vs : List Expr} {k k2 : Nat} {p p2 : Pos} {env : PySem.Env} (h : (ts.length == 2 || ts.length == 3) = false) : swappedStores [.Tuple ts k p] (.Tuple vs k2 p2) env = pure none := by
  unfold swappedStores
  simp only [h]
  rfl
def constB (vs : List Expr) : Bool := vs.all (foldedForSure 8) || vs.all (constantsAlone 8)
theorem st_two {x y : Str} {a b : Expr} {px py : Pos} {k k2 : Nat} {p p2 : Pos} {env : PySem.Env} (hf : env.scope.kind = .function) (hx : env.scope.names.lookup x = some .local) (hy : env.scope.names.lookup y = some .local) (hxy : (x == y) = false) (hl : (py.line == px.line) = true) (ha : plainX a = true) (hb : plainX b = true) (hc : constB [a, b] = false) :
    swappedStores [.Tuple [.Name x px, .Name y py] k p] (.Tuple [a, b] k2 p2) env = pure (some [x, y]) := by
  have kx : env.kindOf x = some .local := hx
  have ky : env.kindOf y = some .local := hy
  have kb : env.blockKind = .function := by unfold PySem.Env.blockKind; rw [hf]; rfl
  unfold constB at hc
  rw [Bool.or_eq_false_iff] at hc
  obtain ⟨c1, c2⟩ := hc
  have hl' : py.line = px.line := by simpa using hl
  have hxy' : (y == x) = false := by
    cases e : (y == x) with
    | false => rfl
    | true => rw [beq_iff_eq.mp e] at hxy; simp at hxy
  unfold swappedStores
  simp only [List.length_cons, List.length_nil, kb, c1, c2]
  simp [kx, ky, Expr.pos, hl', List.filterMap, List.eraseDups, List.eraseDupsBy, List.eraseDupsBy.loop, hxy, hxy']
  rintro (h | h)
  · cases a <;> first | (cases h; done) | (cases ha; done)
  · cases b <;> first | (cases h; done) | (cases hb; done)
theorem st_three {x y z : Str} {a b c : Expr} {px py pz : Pos} {k k2 : Nat} {p p2 : Pos} {env : PySem.Env} (hf : env.scope.kind = .function) (hx : env.scope.names.lookup x = some .local) (hy : env.scope.names.lookup y = some .local) (hz : env.scope.names.lookup z = some .local)
    (hxy : (x == y) = false) (hxz : (x == z) = false) (hyz : (y == z) = false) (hl : (py.line == px.line) = true) (hm : (pz.line == px.line) = true) (ha : plainX a = true) (hb : plainX b = true) (hd : plainX c = true) (hc : constB [a, b, c] = false) :
    swappedStores [.Tuple [.Name x px, .Name y py, .Name z pz] k p] (.Tuple [a, b, c] k2 p2) env = pure (some [x, y, z]) := by
  have kx : env.kindOf x = some .local := hx
  have ky : env.kindOf y = some .local := hy
  have kz : env.kindOf z = some .local := hz
  have kb : env.blockKind = .function := by unfold PySem.Env.blockKind; rw [hf]; rfl
  unfold constB at hc
  rw [Bool.or_eq_false_iff] at hc
  obtain ⟨c1, c2⟩ := hc
  have hl' : py.line = px.line := by simpa using hl
  have hm' : pz.line = px.line := by simpa using hm
  have sym : ∀ {u v : Str}, (u == v) = false → (v == u) = false := fun {u v} h => by
    cases e : (v == u) with
    | false => rfl
    | true => rw [beq_iff_eq.mp e] at h; simp at h
  unfold swappedStores
  simp only [List.length_cons, List.length_nil, kb, c1, c2]
  simp [kx, ky, kz, Expr.pos, hl', hm', List.filterMap, List.eraseDups, List.eraseDupsBy, List.eraseDupsBy.loop, hxy, sym hxy, hxz, sym hxz, hyz, sym hyz]
  rintro (h | h | h)
  · cases a <;> first | (cases h; done) | (cases ha; done)
  · cases b <;> first | (cases h; done) | (cases hb; done)
  · cases c <;> first | (cases h; done) | (cases hd; done)
end Hx

set_option Elab.async false
set_option linter.all false
set_option maxRecDepth 100000
set_option maxHeartbeats 4000000
/-! H26: checks of statements; the rules of plain ones. -/
namespace Hx
open PySem PySem.Spec PyProof.Rows L2

/-! ### checks -/
abbrev CKt := Stmt → Bool
abbrev CKts := List Stmt → Bool
def swB (S : SC) (y : Str) (py : Pos) : Expr → Bool
  | .ListComp _ _ scope pos => funB S.sc && locB S.sc y && (py.line == pos.line) && !(scope.names.any fun (n, k) => n == y && (k == .local || k == .cell))
  | .DictComp _ _ _ scope pos => funB S.sc && locB S.sc y && (py.line == pos.line) && !(scope.names.any fun (n, k) => n == y && (k == .local || k == .cell))
  | _ => false
def shB (y : Str) : Expr → Bool
  | .ListComp _ _ scope _ => scope.names.any fun (n, k) => n == y && (k == .local || k == .cell)
  | _ => false
def isCp : IE → Bool
  | .comp _ _ _ _ => true
  | .comp2 _ _ _ _ _ _ _ => true
  | .dcomp2 _ _ _ _ _ _ => true
  | _ => false
def kAsg (S : SC) (i : Nat) (cp : Bool) (k : CK) : CKt
  | .Assign [.Name y py] x _ => nameB S i y && stoB S y && k x && (!isComp x || cellB S.sc y || shB y x || (cp && swB S y py x))
  | _ => false
def kSetix (S : SC) (i : Nat) (kk ke : CK) : CKt
  | .Assign [.Subscript (.Name y _) z _] x _ => nameB S i y && visB S.sc y && kk z && plainX z && ke x
  | _ => false
/-- a target that no exchange knows -/
def offB (S : SC) : Expr → Bool
  | .Name x _ => !locB S.sc x
  | _ => true
def noSwB (S : SC) (ts : List Expr) : Expr → Bool
  | .Tuple vs _ _ => vs.all (foldedForSure 8) || !(ts.length == 2 || ts.length == 3) || ts.any (offB S)
  | _ => true
def kUnp (S : SC) (is : List Nat) (ke : CK) : CKt
  | .Assign [.Tuple ts _ _] x _ => tgtB.tupB S is ts && ke x && noSwB S ts x
  | _ => false
def kPar (S : SC) : List Nat → CKs → CKt
  | [i, j], ks, .Assign [.Tuple [.Name x px, .Name y py] _ _] (.Tuple [a, b] _ _) _ => nameB S i x && nameB S j y && locB S.sc x && locB S.sc y && !(x == y) && decide (i ≠ j) && (py.line == px.line) && plainX a && plainX b && !constB [a, b] && ks [a, b]
  | [i, j, l], ks, .Assign [.Tuple [.Name x px, .Name y py, .Name z pz] _ _] (.Tuple [a, b, c] _ _) _ => nameB S i x && nameB S j y && nameB S l z && locB S.sc x && locB S.sc y && locB S.sc z && !(x == y) && !(x == z) && !(y == z) &&
      decide (i ≠ j) && decide (i ≠ l) && decide (j ≠ l) && (py.line == px.line) && (pz.line == px.line) && plainX a && plainX b && plainX c && !constB [a, b, c] && ks [a, b, c]
  | _, _, _ => false
def augB : BOp → Operator → Bool
  | .add, .Add => true
  | .sub, .Sub => true
  | .mul, .Mult => true
  | _, _ => false
def kAug (S : SC) (o : BOp) (i : Nat) (ke : CK) : CKt
  | .AugAssign (.Name y _) p x _ => nameB S i y && stoB S y && augB o p && ke x
  | _ => false
def kEx (ke : CK) : CKt
  | .Expr x _ => ke x && !isComp x
  | _ => false
def kMeth (S : SC) (n : Str) (i : Nat) (ke : CK) : CKt
  | .Expr (.Call (.Attribute (.Name y _) m ap) [z] [] cp) _ => nameB S i y && visB S.sc y && (m == n) && (ap.endLine == cp.line) && ke z && plainX z
  | _ => false
def kRet (ke : CK) : CKt
  | .Return (some x) _ => ke x
  | _ => false
def kRetN : CKt
  | .Return none _ => true
  | _ => false
def kIf (kc : CK) (ka kb : CKts) : CKt
  | .If c a b _ => kc c && ka a && kb b
  | _ => false
def kFor (S : SC) (t : Tgt) (ki : Expr → CK) (kb : CKts) : CKt
  | .For tg it body [] _ => tgtB S t tg && ki tg it && kb body
  | _ => false
def kWhl (kc : CK) (kb : CKts) : CKt
  | .While c body [] _ => kc c && kb body
  | _ => false
def kPas : CKt
  | .Pass _ => true
  | _ => false
def isNonE : IE → Bool
  | .lit .non => true
  | _ => false
def ownV (G br : List Nat) : IE → Bool
  | .v i => decide (i ∈ G) && decide (i ∉ br)
  | _ => false
def kTupE (S : SC) (G : List Nat) (is : List Nat) : IE → CKt
  | .tup es => fun x => funB S.sc && kPar S is (chkEs S G es) x
  | _ => fun _ => false
def subO (br : List Nat) : Option (List Nat) → Bool
  | none => true
  | some g => subL br g
mutual
def chkS (S : SC) (br : List Nat) (fr : Bool) : IS → List Nat → CKt
  | .asg i e, G => fun x => kAsg S i (isCp e) (chkE S G e) x && subL (infE S.sg G e).el (infE S.sg G e).al && dis br (i :: (infE S.sg G e).al)
  | .unp is e, G => fun x => (kUnp S is (chkE S G e) x || kTupE S G is e x) && dis br (is ++ ((infE S.sg G e).al ++ (infE S.sg G e).el))
  | .setix i k e, G => fun x => kSetix S i (chkE S G k) (chkE S G e) x && decide (i ∈ G) && decide (i ∉ (infE S.sg G e).al ++ (infE S.sg G e).el) && dis br ((infE S.sg G e).al ++ (infE S.sg G e).el) && aft G (infE S.sg G e) (infE S.sg G k)
  | .aug o i e, G => fun x => kAug S o i (chkE S G e) x && decide (i ∉ G) && subL (infE S.sg G e).md G
  | .ex e, G => kEx (chkE S G e)
  | .app i e, G => fun x => kMeth S "append" i (chkE S G e) x && decide (i ∈ G) && decide (i ∉ (infE S.sg G e).al ++ (infE S.sg G e).el) && dis br ((infE S.sg G e).al ++ (infE S.sg G e).el)
  | .ext i e, G => fun x => kMeth S "extend" i (chkE S G e) x && decide (i ∈ G) && decide (i ∉ (infE S.sg G e).el) && dis br (infE S.sg G e).el
  | .ret e, G => fun x => (kRet (chkE S G e) x || (isNonE e && kRetN x)) && (ownV G br e || (dis br (infE S.sg G e).al && subL (infE S.sg G e).el (infE S.sg G e).al && (!fr || (infE S.sg G e).fr)))
  | .ite c a b, G => fun x => kIf (chkT S G c) (chkSs S br fr a G) (chkSs S br fr b G) x && subO br (outSs S.sg G a) && subO br (outSs S.sg G b)
  | .for_ g t it b, G => fun x => kFor S t (chkI S G it) (chkSs S br fr b g) x && subL g G && subL br g && dis g (infI S.sg G it).al && dis g (infI S.sg G it).el && dis t.own g && subO g (outSs S.sg g b) && pairB (infI S.sg G it) t
  | .whl g c b, G => fun x => kWhl (chkT S g c) (chkSs S br fr b g) x && subL g G && subL br g && subO g (outSs S.sg g b)
  | .raise _ _, _ => fun _ => false
  | .nev, _ => fun _ => true
  | .pas, _ => kPas
def chkSs (S : SC) (br : List Nat) (fr : Bool) : ISs → List Nat → CKts
  | .nil, _ => List.isEmpty
  | .cons s r, G => fun x => match x with
    | y :: ys => chkS S br fr s G y && (match outS S.sg G s with
      | some G' => chkSs S br fr r G' ys
      | none => ys.isEmpty)
    | [] => false
end
/-! ### the context of a body -/
structure CxS (Γ : List Callee) (ER : ERel) (S : SC) (W : WX) (X : Cx) : Prop where
  ok : CxOk Γ ER S W X
  po : PassesOwn (model X.prog X.w) X.A X.env X.xe
section
variable {Γ : List Callee} {ER : ERel} {S : SC} {W : WX} {X : Cx} {G br : List Nat} {fr : Bool}
theorem lt_of_some {α : Type} {l : List α} {i : Nat} {x : α} (h : l[i]? = some x) : i < l.length := (List.getElem?_eq_some_iff.mp h).1
abbrev JS (Γ : List Callee) (ER : ERel) (S : SC) (W : WX) (X : Cx) (br : List Nat) (fr : Bool) (G : List Nat) (s : IS) : Prop := ∀ x, chkS S br fr s G x = true → PS X x (tS X.K ER W G br fr (outS S.sg G s) (exec Γ s))
abbrev JSs (Γ : List Callee) (ER : ERel) (S : SC) (W : WX) (X : Cx) (br : List Nat) (fr : Bool) (G : List Nat) (s : ISs) : Prop := ∀ xs, chkSs S br fr s G xs = true → PSs X xs (tS X.K ER W G br fr (outSs S.sg G s) (execs Γ s))
theorem subO_of {br : List Nat} {o : Option (List Nat)} (h : subO br o = true) : ∀ G', o = some G' → subL br G' = true := fun G' e => by
  rw [e] at h
  exact h
theorem sw_sh {x : Expr} {y : Str} {p : Pos} {l : Nat} {env : PySem.Env} (h : shB y x = true) : swapsWith x (some (.Name y p)) l env = pure false := by
  unfold shB at h
  split at h
  · unfold swapsWith
    simp only [h, Bool.not_true, Bool.and_false]
  · cases h
theorem swd_true {kx vx : Expr} {gs : List Comprehension} {scope : Scope} {pos py : Pos} {y : Str} {l : Nat} {env : PySem.Env} (hk : env.scope.kind = .function) (hy : env.scope.names.lookup y = some .local) (hl : (py.line == pos.line) = true)
    (ha : (scope.names.any fun (n, k) => n == y && (k == .local || k == .cell)) = false) : swapsWith (.DictComp kx vx gs scope pos) (some (.Name y py)) l env = pure true := by
  have e1 : env.kindOf y = some .local := hy
  have e2 : env.blockKind = .function := by unfold PySem.Env.blockKind; rw [hk]; rfl
  unfold swapsWith
  simp only [e1, e2, ha, Expr.pos, hl]
  rfl
theorem off_short {env : PySem.Env} {l : Nat} : ∀ {ts : List Expr}, (∃ t ∈ ts, ∀ x p, t = .Name x p → env.scope.names.lookup x ≠ some .local) → (ts.filterMap fun
    | .Name id pos => if env.kindOf id == some .local && pos.line == l then some id else none
    | _ => none).length < ts.length
  | [], h => by obtain ⟨t, ht, _⟩ := h; cases ht
  | t :: ts, h => by
    have le : ∀ ts : List Expr, (ts.filterMap fun
      | .Name id pos => if env.kindOf id == some .local && pos.line == l then some id else none
      | _ => none).length ≤ ts.length := fun ts => List.length_filterMap_le _ _
    rw [List.filterMap_cons]
    split
    · rw [List.length_cons]
      exact Nat.lt_succ_of_le (le ts)
    · rename_i y hy
      rw [List.length_cons, List.length_cons]
      refine Nat.succ_lt_succ (off_short ?_)
      obtain ⟨z, hz, k⟩ := h
      rcases List.mem_cons.mp hz with e | hz
      · subst e
        exfalso
        cases z with
        | Name x p =>
          have n := k x p rfl
          dsimp only at hy
          split at hy
          · rename_i c
            rw [Bool.and_eq_true] at c
            have c1 : env.kindOf x = some .local := by simpa using c.1
            exact n c1
          · cases hy
        | _ => cases hy
      · exact ⟨z, hz, k⟩
theorem st_off (C : CxOk Γ ER S W X) {ts vs : List Expr} {k k2 : Nat} {p p2 : Pos} (h : ts.any (offB S) = true) : swappedStores [.Tuple ts k p] (.Tuple vs k2 p2) X.env = pure none := by
  obtain ⟨t, ht, hb⟩ := List.any_eq_true.mp h
  have sh := off_short (env := X.env) (l := (ts.head?.map (·.pos.line)).getD 0) ⟨t, ht, fun x q e => by
    subst e
    intro z
    have hb' : (!locB S.sc x) = true := hb
    unfold locB at hb'
    rw [C.sc] at z
    rw [z] at hb'
    cases hb'⟩
  unfold swappedStores
  dsimp only
  split
  · rfl
  · split
    · rfl
    · split
      · rfl
      · rename_i n
        exfalso
        refine n ?_
        rw [Bool.or_eq_true]
        exact .inl (bne_iff_ne.mpr (Nat.ne_of_lt sh))
theorem st_asg (C : CxS Γ ER S W X) {i : Nat} {e : IE} : JS Γ ER S W X br fr G (.asg i e) := by
  intro x h
  have h' : (kAsg S i (isCp e) (chkE S G e) x && subL (infE S.sg G e).el (infE S.sg G e).al && dis br (i :: (infE S.sg G e).al)) = true := h
  rw [Bool.and_eq_true, Bool.and_eq_true] at h'
  obtain ⟨⟨h1, h2⟩, h3⟩ := h'
  unfold kAsg at h1
  split at h1
  · rename_i y py x pos
    rw [Bool.and_eq_true, Bool.and_eq_true, Bool.and_eq_true] at h1
    obtain ⟨⟨⟨k1, k2⟩, k3⟩, k4⟩ := h1
    obtain ⟨n1, n2⟩ := nameB_of k1
    obtain ⟨l, f⟩ := C.ok.sto k2
    have he := sndE e C.ok x k3
    have nd : X.N.Nodup := by rw [C.ok.N]; exact C.ok.nd
    have go : swapsWith x (some (.Name y py)) pos.line X.env = pure false → PS X (.Assign [.Name y py] x pos) (tS X.K ER W G br fr (outS S.sg G (.asg i e)) (exec Γ (.asg i e))) := fun hs =>
      (ps_set nd (C.ok.at n1) l he hs f).impL fun D σ H hn q => m_asg hn (lt_of_some (C.ok.at n1)) h2 h3 q
    rw [Bool.or_eq_true, Bool.or_eq_true, Bool.or_eq_true] at k4
    rcases k4 with ((k4 | k4) | k4) | k4
    · exact go (sw_plain (by simpa using k4) _ _ _)
    · exact go (sw_cell (by rw [C.ok.sc]; exact cellB_of k4))
    · exact go (sw_sh k4)
    · rw [Bool.and_eq_true] at k4
      obtain ⟨k5, k6⟩ := k4
      cases e with
      | comp t it cs el =>
        have O := comp_ok C.ok (sndI it C.ok) (fun C' => sndCs cs C') (fun C' => sndE el C') k3
        obtain ⟨elt, tg, iter, ifs, scope, p, rfl, i1, i2, bo, g, ts, es⟩ := O.ex
        have k7 : (funB S.sc && locB S.sc y && (py.line == p.line) && !(scope.names.any fun (n, k) => n == y && (k == .local || k == .cell))) = true := k6
        rw [Bool.and_eq_true, Bool.and_eq_true, Bool.and_eq_true] at k7
        obtain ⟨⟨⟨j1, j2⟩, j3⟩, j4⟩ := k7
        have yl : X.env.scope.names.lookup y = some .local := by rw [C.ok.sc]; exact locB_of j2
        refine (ps_setLc C.ok.calm nd (C.ok.at n1) yl (sw_true (by rw [C.ok.sc]; exact funB_of j1) yl j3 (by simpa using j4)) i1 bo g ts es (fun v => i2 X.env v)).impL fun D σ H hn q => ?_
        exact O.lc (m_asg (Γ := Γ) (D := D) hn (lt_of_some (C.ok.at n1)) h2 h3 q)
      | comp2 t it cs t2 it2 cs2 el =>
        have O := comp2_ok C.ok (sndI it C.ok) (fun C' => sndCs cs C') (fun C' => sndI it2 C') (fun C' => sndCs cs2 C') (fun C' => sndE el C') k3
        obtain ⟨elt, tg, iter, ifs, tg1, iter1, ifs1, scope, p, rfl, i1, i2, i3, bo, B⟩ := O.ex
        have k7 : (funB S.sc && locB S.sc y && (py.line == p.line) && !(scope.names.any fun (n, k) => n == y && (k == .local || k == .cell))) = true := k6
        rw [Bool.and_eq_true, Bool.and_eq_true, Bool.and_eq_true] at k7
        obtain ⟨⟨⟨j1, j2⟩, j3⟩, j4⟩ := k7
        have yl : X.env.scope.names.lookup y = some .local := by rw [C.ok.sc]; exact locB_of j2
        refine (ps_setLc2 C.ok.calm nd (C.ok.at n1) yl (sw_true (by rw [C.ok.sc]; exact funB_of j1) yl j3 (by simpa using j4)) i1 bo own2_ix (fun s H Ca cl fp => (B s H Ca cl fp).1) (fun s H Ca cl fp => (B s H Ca cl fp).2.1) (fun s H Ca cl fp => (B s H Ca cl fp).2.2.1) (fun s H Ca cl fp => (B s H Ca cl fp).2.2.2.1) (fun s H Ca cl fp => (B s H Ca cl fp).2.2.2.2.1)
          (fun s H Ca cl fp => (B s H Ca cl fp).2.2.2.2.2) (fun v => i2 X.env v) i3).impL fun D σ H hn q => ?_
        exact O.lc (m_asg (Γ := Γ) (D := D) hn (lt_of_some (C.ok.at n1)) h2 h3 q)
      | dcomp2 t it t2 it2 ke ve =>
        have O := dcomp2_ok C.ok (sndI it C.ok) (fun C' => sndI it2 C') (fun C' => sndE ke C') (fun C' => sndE ve C') k3
        obtain ⟨kx, vx, tg, iter, tg1, iter1, scope, p, rfl, i1, i2, i3, bo, B⟩ := O.ex
        have k7 : (funB S.sc && locB S.sc y && (py.line == p.line) && !(scope.names.any fun (n, k) => n == y && (k == .local || k == .cell))) = true := k6
        rw [Bool.and_eq_true, Bool.and_eq_true, Bool.and_eq_true] at k7
        obtain ⟨⟨⟨j1, j2⟩, j3⟩, j4⟩ := k7
        have yl : X.env.scope.names.lookup y = some .local := by rw [C.ok.sc]; exact locB_of j2
        refine (ps_setDc2 C.ok.calm nd (C.ok.at n1) yl (swd_true (by rw [C.ok.sc]; exact funB_of j1) yl j3 (by simpa using j4)) i1 bo own2_ix B (fun v => i2 X.env v) i3).impL fun D σ H hn q => ?_
        exact O.dc (m_asg (Γ := Γ) (D := D) hn (lt_of_some (C.ok.at n1)) h2 h3 q)
      | _ => cases k5
  · cases h1
theorem st_setix (C : CxS Γ ER S W X) {i : Nat} {k e : IE} : JS Γ ER S W X br fr G (.setix i k e) := by
  intro x h
  have h' : (kSetix S i (chkE S G k) (chkE S G e) x && decide (i ∈ G) && decide (i ∉ (infE S.sg G e).al ++ (infE S.sg G e).el) && dis br ((infE S.sg G e).al ++ (infE S.sg G e).el) && aft G (infE S.sg G e) (infE S.sg G k)) = true := h
  rw [Bool.and_eq_true, Bool.and_eq_true, Bool.and_eq_true, Bool.and_eq_true] at h'
  obtain ⟨⟨⟨⟨h1, h2⟩, h3⟩, h4⟩, h5⟩ := h'
  unfold kSetix at h1
  split at h1
  · rename_i y py z zp x pos
    rw [Bool.and_eq_true, Bool.and_eq_true, Bool.and_eq_true, Bool.and_eq_true] at h1
    obtain ⟨⟨⟨⟨k1, k2⟩, k3⟩, k4⟩, k5⟩ := h1
    obtain ⟨n1, n2⟩ := nameB_of k1
    refine (ps_asg (sndE e C.ok x k5) (pg_sub (pe_var (C.ok.at n1) (C.ok.vis k2) (okN_of n2).1 (okN_of n2).2.1) (sndE k C.ok z k3) set_list fun v => ?_) ?_ ?_ rfl).imp fun D σ H q => m_setix (of_decide_eq_true h2) (of_decide_eq_true h3) h4 h5 q
    · rw [PySem.arm_assign_Subscript]
      cases z <;> first | rfl | cases k4
    · rw [sole]; exact sw_sub _ _
    · cases x <;> rfl
  · cases h1
theorem par_two {i j : Nat} {ta : TA} {D : Ends} {σ : L2.St} {H : Hp} (h : ta σ H fun vs H1 => gNs [i, j] vs σ H1 D.nx) (mono : ∀ {Q Q' : List V → Hp → Prop}, (∀ v H, Q v H → Q' v H) → ta σ H Q → ta σ H Q') : tPar i j ta D σ H := by
  refine mono (fun vs H1 q => ?_) h
  obtain ⟨v, r, e1, v2, r2, e2, e3, q⟩ := q
  subst e1 e2 e3
  exact ⟨v, v2, rfl, q⟩
theorem par_three {i j l : Nat} {ta : TA} {D : Ends} {σ : L2.St} {H : Hp} (h : ta σ H fun vs H1 => gNs [i, j, l] vs σ H1 D.nx) (mono : ∀ {Q Q' : List V → Hp → Prop}, (∀ v H, Q v H → Q' v H) → ta σ H Q → ta σ H Q') : tPar3 i j l ta D σ H := by
  refine mono (fun vs H1 q => ?_) h
  obtain ⟨v, r, e1, v2, r2, e2, v3, r3, e3, e4, q⟩ := q
  subst e1 e2 e3 e4
  exact ⟨v, v2, v3, rfl, q⟩
theorem tMs_mono {K : PySem.W.Frag} {fs : List Inf} {md : List Nat} {m : Env → Res (List PyData × Env)} {σ : L2.St} {H : Hp} {Q Q' : List V → Hp → Prop} (k : ∀ v H, Q v H → Q' v H) (h : tMs K ER W G fs md m σ H Q) : tMs K ER W G fs md m σ H Q' := by
  obtain ⟨Z, ρ, R, w⟩ := h
  exact ⟨Z, ρ, R, w.mono fun p h vs H' a r q => k _ _ (h vs H' a r q)⟩
theorem st_unp (C : CxS Γ ER S W X) {is : List Nat} {e : IE} : JS Γ ER S W X br fr G (.unp is e) := by
  intro x h
  have h' : ((kUnp S is (chkE S G e) x || kTupE S G is e x) && dis br (is ++ ((infE S.sg G e).al ++ (infE S.sg G e).el))) = true := h
  rw [Bool.and_eq_true, Bool.or_eq_true] at h'
  obtain ⟨h1, h2⟩ := h'
  have nd : X.N.Nodup := by rw [C.ok.N]; exact C.ok.nd
  have xl : ∀ {y : Str}, locB S.sc y = true → X.env.scope.names.lookup y = some .local := fun h => by rw [C.ok.sc]; exact locB_of h
  rcases h1 with h1 | h1
  · unfold kUnp at h1
    split at h1
    · rename_i ts tk tp x pos
      rw [Bool.and_eq_true, Bool.and_eq_true] at h1
      obtain ⟨⟨k1, k2⟩, k3⟩ := h1
      refine (ps_asg (sndE e C.ok x k2) (pg_tgt C.ok (t := .tup is) (e := .Tuple ts tk tp) k1) ?_ ?_ rfl).imp fun D σ H q => m_unp h2 q
      · rw [sole]; exact sw_tup _ _
      · unfold noSwB at k3
        split at k3
        · rw [Bool.or_eq_true] at k3
          rcases k3 with k3 | k3
          · rw [Bool.or_eq_true] at k3
            rcases k3 with k3 | k3
            · exact st_folded k3
            · exact st_long (by simpa using k3)
          · exact st_off C.ok k3
        · rename_i hx
          refine st_plain ?_
          cases x <;> first | rfl | exact absurd rfl (hx _ _ _)
    · cases h1
  · cases e with
    | tup es =>
      have h0 : (funB S.sc && kPar S is (chkEs S G es) x) = true := h1
      rw [Bool.and_eq_true] at h0
      obtain ⟨h0, h1'⟩ := h0
      have fk : X.env.scope.kind = .function := by rw [C.ok.sc]; exact funB_of h0
      unfold kPar at h1'
      split at h1'
      · rename_i i j ks x px y py kt pt a b k2 pt2 pos
        simp only [Bool.and_eq_true, Bool.not_eq_true', decide_eq_true_eq] at h1'
        obtain ⟨⟨⟨⟨⟨⟨⟨⟨⟨⟨q1, q2⟩, q3⟩, q4⟩, q5⟩, q6⟩, q7⟩, q8⟩, q9⟩, q10⟩, q11⟩ := h1'
        refine (ps_par C.ok.calm nd (C.ok.at (nameB_of q1).1) (C.ok.at (nameB_of q2).1) q6 (xl q3) (xl q4) (sndEs es C.ok _ q11) (st_two fk (xl q3) (xl q4) q5 q7 q8 q9 q10) (by rw [sole]; exact sw_tup _ _)).imp fun D σ H q => ?_
        exact par_two (m_par h2 q) fun k h => tMs_mono k h
      · rename_i i j l ks x px y py z pz kt pt a b c k2 pt2 pos
        simp only [Bool.and_eq_true, Bool.not_eq_true', decide_eq_true_eq] at h1'
        obtain ⟨⟨⟨⟨⟨⟨⟨⟨⟨⟨⟨⟨⟨⟨⟨⟨⟨⟨q1, q2⟩, q3⟩, q4⟩, q5⟩, q6⟩, q7⟩, q8⟩, q9⟩, q10⟩, q11⟩, q12⟩, q13⟩, q14⟩, q15⟩, q16⟩, q17⟩, q18⟩, q19⟩ := h1'
        refine (ps_par3 C.ok.calm nd (C.ok.at (nameB_of q1).1) (C.ok.at (nameB_of q2).1) (C.ok.at (nameB_of q3).1) q10 q11 q12 (xl q4) (xl q5) (xl q6) (sndEs es C.ok _ q19) (st_three fk (xl q4) (xl q5) (xl q6) q7 q8 q9 q13 q14 q15 q16 q17 q18) (by rw [sole]; exact sw_tup _ _)).imp fun D σ H q => ?_
        exact par_three (m_par h2 q) fun k h => tMs_mono k h
      · cases h1'
    | _ => cases h1
end
end Hx

set_option Elab.async false
set_option linter.all false
set_option maxRecDepth 100000
set_option maxHeartbeats 4000000
/-! H27: the other statements; every block that is checked does what it means. -/
namespace Hx
open PySem PySem.Spec PyProof.Rows L2
section
variable {Γ : List Callee} {ER : ERel} {S : SC} {W : WX} {X : Cx} {G br : List Nat} {fr : Bool}
theorem augB_of {o : BOp} {p : Operator} (h : augB o p = true) : ∃ C f, augP o = some (p, C, f) := by
  cases o <;> cases p <;> first | exact ⟨_, _, rfl⟩ | cases h
theorem st_aug (C : CxS Γ ER S W X) {o : BOp} {i : Nat} {e : IE} : JS Γ ER S W X br fr G (.aug o i e) := by
  intro x h
  have h' : (kAug S o i (chkE S G e) x && decide (i ∉ G) && subL (infE S.sg G e).md G) = true := h
  rw [Bool.and_eq_true, Bool.and_eq_true] at h'
  obtain ⟨⟨h1, h2⟩, h3⟩ := h'
  unfold kAug at h1
  split at h1
  · rename_i y py p x pos
    rw [Bool.and_eq_true, Bool.and_eq_true, Bool.and_eq_true] at h1
    obtain ⟨⟨⟨k1, k2⟩, k3⟩, k4⟩ := h1
    obtain ⟨l, f⟩ := C.ok.sto k2
    obtain ⟨P, g, hp⟩ := augB_of k3
    exact (ps_aug (by rw [C.ok.N]; exact C.ok.nd) (C.ok.at (nameB_of k1).1) l (sndE e C.ok x k4) (ip_aug hp) f).imp fun D σ H q => m_aug hp (of_decide_eq_true h2) h3 q
  · cases h1
theorem st_ex (C : CxS Γ ER S W X) {e : IE} : JS Γ ER S W X br fr G (.ex e) := by
  intro x h
  have h1 : kEx (chkE S G e) x = true := h
  unfold kEx at h1
  split at h1
  · rename_i x pos
    rw [Bool.and_eq_true] at h1
    exact (ps_expr (sndE e C.ok x h1.1) (sw_plain (by simpa using h1.2) _ _ _)).imp fun D σ H q => m_ex q
  · cases h1
theorem meth_app (C : CxS Γ ER S W X) {n : Str} {i : Nat} {e : IE} {x : Stmt} {id : String} {r : V → List V → Hp → VK → Prop} (hm : MtR X id r) (sl : Slot "list" n id) (hty : typeOf (.builtin id) = pure (.type "method_descriptor")) (h : kMeth S n i (chkE S G e) x = true) :
    PS X x (fun D σ H => tBM X.K "list" r (tVar i) (tCons (tM X.K ER W G (infE S.sg G e) (evE Γ e)) tNil) σ H fun _ H1 => D.nx σ H1) := by
  unfold kMeth at h
  split at h
  · rename_i y py m ap z cp pos
    rw [Bool.and_eq_true, Bool.and_eq_true, Bool.and_eq_true, Bool.and_eq_true, Bool.and_eq_true] at h
    obtain ⟨⟨⟨⟨⟨k1, k2⟩, k3⟩, k4⟩, k5⟩, k6⟩ := h
    obtain ⟨n1, n2⟩ := nameB_of k1
    obtain rfl := beq_iff_eq.mp k3
    refine ps_expr (pe_bm PySem.F.plainAttrs_list sl hty hm (pe_var (C.ok.at n1) (C.ok.vis k2) (okN_of n2).1 (okN_of n2).2.1) (pa_cons (sndE e C.ok z k5) pa_nil (star_plain k6)) rfl ?_ k4 (star_plain k6) rfl) (sw_plain rfl _ _ _)
    rw [star_plain k6]
    rfl
  · cases h
theorem st_app (C : CxS Γ ER S W X) {i : Nat} {e : IE} : JS Γ ER S W X br fr G (.app i e) := by
  intro x h
  have h' : (kMeth S "append" i (chkE S G e) x && decide (i ∈ G) && decide (i ∉ (infE S.sg G e).al ++ (infE S.sg G e).el) && dis br ((infE S.sg G e).al ++ (infE S.sg G e).el)) = true := h
  rw [Bool.and_eq_true, Bool.and_eq_true, Bool.and_eq_true] at h'
  obtain ⟨⟨⟨h1, h2⟩, h3⟩, h4⟩ := h'
  exact (meth_app C mt_append PySem.F.slot_list_append PySem.F.type_list_append h1).imp fun D σ H q => m_app (of_decide_eq_true h2) (of_decide_eq_true h3) h4 q
theorem st_ext (C : CxS Γ ER S W X) {i : Nat} {e : IE} : JS Γ ER S W X br fr G (.ext i e) := by
  intro x h
  have h' : (kMeth S "extend" i (chkE S G e) x && decide (i ∈ G) && decide (i ∉ (infE S.sg G e).el) && dis br (infE S.sg G e).el) = true := h
  rw [Bool.and_eq_true, Bool.and_eq_true, Bool.and_eq_true] at h'
  obtain ⟨⟨⟨h1, h2⟩, h3⟩, h4⟩ := h'
  exact (meth_app C mt_extendL PySem.F.slot_list_extend PySem.F.type_list_extend h1).imp fun D σ H q => m_ext (of_decide_eq_true h2) (of_decide_eq_true h3) h4 q
theorem isNonE_of {e : IE} (h : isNonE e = true) : e = .lit .non := by
  unfold isNonE at h
  split at h
  · rfl
  · cases h
theorem st_ret (C : CxS Γ ER S W X) {e : IE} : JS Γ ER S W X br fr G (.ret e) := by
  intro x h
  have h' : ((kRet (chkE S G e) x || (isNonE e && kRetN x)) && (ownV G br e || (dis br (infE S.sg G e).al && subL (infE S.sg G e).el (infE S.sg G e).al && (!fr || (infE S.sg G e).fr)))) = true := h
  rw [Bool.and_eq_true, Bool.or_eq_true, Bool.or_eq_true] at h'
  obtain ⟨h1, h2⟩ := h'
  rcases h1 with h1 | h1
  · unfold kRet at h1
    split at h1
    · rename_i x pos
      rcases h2 with h2 | h2
      · unfold ownV at h2
        split at h2
        · rename_i i
          rw [Bool.and_eq_true] at h2
          have hv : kVar S i x = true := h1
          unfold kVar at hv
          split at hv
          · rename_i y py
            rw [Bool.and_eq_true] at hv
            obtain ⟨n1, n2⟩ := nameB_of hv.1
            exact (ps_ret (pe_var (C.ok.at n1) (C.ok.vis hv.2) (okN_of n2).1 (okN_of n2).2.1)).imp fun D σ H q => m_retv (of_decide_eq_true h2.1) (of_decide_eq_true h2.2) q
          · cases hv
        · cases h2
      · rw [Bool.and_eq_true, Bool.and_eq_true] at h2
        obtain ⟨⟨k1, k2⟩, k3⟩ := h2
        refine (ps_ret (sndE e C.ok x h1)).imp fun D σ H q => m_ret k1 k2 (fun z => ?_) q
        rw [z] at k3
        simpa using k3
    · cases h1
  · rw [Bool.and_eq_true] at h1
    obtain rfl := isNonE_of h1.1
    have hx := h1.2
    unfold kRetN at hx
    split at hx
    · rcases h2 with h2 | h2
      · cases h2
      · rw [Bool.and_eq_true, Bool.and_eq_true] at h2
        refine ps_retN.imp fun D σ H q => ?_
        obtain ⟨Z, ρ, R, hb, w⟩ := q
        have w' : PostF X.K Z fr none D (.rt .none ρ) := w
        have nf : ¬ fr = true := fun z => by
          have := h2.2
          rw [z] at this
          cases this
        have q2 : tM X.K ER W G (infE S.sg G (.lit .non)) (evE Γ (.lit .non)) σ H D.rt := m_ret (S := S) (o := none) (D := D) (Γ := Γ) h2.1.1 h2.1.2 (fun z => absurd z nf) ⟨Z, ρ, R, hb, w⟩
        obtain ⟨Z2, ρ2, R2, w2⟩ := q2
        have w3 : PostE X.K Z2 G (infE S.sg G (.lit .non)) σ H (.none, ρ2) D.rt := w2
        exact w3 .non H rfl (fun z => by cases z) (fun z => by cases z) (fun i z => by cases z) R2 Kp.refl
    · cases hx
theorem st_nev : JS Γ ER S W X br fr G .nev := fun x _ => ps_never.imp fun D σ H ⟨Z, ρ, R, hb, w⟩ => w.elim
theorem st_pas : JS Γ ER S W X br fr G .pas := by
  intro x h
  have h1 : kPas x = true := h
  unfold kPas at h1
  split at h1
  · exact ps_pass.imp fun D σ H ⟨Z, ρ, R, hb, w⟩ => (show PostF X.K Z fr (some G) D (.nx ρ) from w) G rfl σ H R
  · cases h1
theorem st_ite (C : CxS Γ ER S W X) {c : IC} {a b : ISs} (ha : JSs Γ ER S W X br fr G a) (hb : JSs Γ ER S W X br fr G b) : JS Γ ER S W X br fr G (.ite c a b) := by
  intro x h
  have h' : (kIf (chkT S G c) (chkSs S br fr a G) (chkSs S br fr b G) x && subO br (outSs S.sg G a) && subO br (outSs S.sg G b)) = true := h
  rw [Bool.and_eq_true, Bool.and_eq_true] at h'
  obtain ⟨⟨h1, h2⟩, h3⟩ := h'
  unfold kIf at h1
  split at h1
  · rw [Bool.and_eq_true, Bool.and_eq_true] at h1
    exact (ps_if (sndT c C.ok _ h1.1.1) (ha _ h1.1.2) (hb _ h1.2)).imp fun D σ H q => m_ite (subO_of h2) (subO_of h3) q
  · cases h1
theorem st_for (C : CxS Γ ER S W X) {g : List Nat} {t : Tgt} {it : II} {b : ISs} (hb : JSs Γ ER S W X br fr g b) : JS Γ ER S W X br fr G (.for_ g t it b) := by
  intro x h
  have h' : (kFor S t (chkI S G it) (chkSs S br fr b g) x && subL g G && subL br g && dis g (infI S.sg G it).al && dis g (infI S.sg G it).el && dis t.own g && subO g (outSs S.sg g b) && pairB (infI S.sg G it) t) = true := h
  simp only [Bool.and_eq_true] at h'
  obtain ⟨⟨⟨⟨⟨⟨⟨h1, h2⟩, h3⟩, h4⟩, h5⟩, h6⟩, h7⟩, h8⟩ := h'
  unfold kFor at h1
  split at h1
  · rename_i tg iter body pos
    rw [Bool.and_eq_true, Bool.and_eq_true] at h1
    obtain ⟨i1, i2⟩ := sndI it C.ok tg iter h1.1.2
    exact (ps_for C.po C.ok.calm i1 (pg_tgt C.ok h1.1.1) (hb _ h1.2) (fun v => i2 X.env v)).imp fun D σ H q => m_for (pair_of h8) h2 h3 h4 h5 h6 (subO_of h7) q
  · cases h1
theorem st_whl (C : CxS Γ ER S W X) {g : List Nat} {c : IC} {b : ISs} (hb : JSs Γ ER S W X br fr g b) : JS Γ ER S W X br fr G (.whl g c b) := by
  intro x h
  have h' : (kWhl (chkT S g c) (chkSs S br fr b g) x && subL g G && subL br g && subO g (outSs S.sg g b)) = true := h
  rw [Bool.and_eq_true, Bool.and_eq_true, Bool.and_eq_true] at h'
  obtain ⟨⟨⟨h1, h2⟩, h3⟩, h4⟩ := h'
  unfold kWhl at h1
  split at h1
  · rename_i cx body pos
    rw [Bool.and_eq_true] at h1
    exact (ps_while C.po (sndT c C.ok _ h1.1) (hb _ h1.2)).imp fun D σ H q => m_whl h2 h3 (subO_of h4) q
  · cases h1
theorem sts_nil : JSs Γ ER S W X br fr G .nil := by
  intro xs h
  have h1 : xs.isEmpty = true := h
  obtain rfl := List.isEmpty_iff.mp h1
  exact pss_nil.imp fun D σ H ⟨Z, ρ, R, hb, w⟩ => (show PostF X.K Z fr (some G) D (.nx ρ) from w) G rfl σ H R
/-- .. then -/
theorem m_seq {s : IS} {r : ISs} {D : Ends} {σ : L2.St} {H : Hp} {u : TS} (hu : ∀ G', outS S.sg G s = some G' → ∀ {D σ H}, tS X.K ER W G' br fr (outSs S.sg G' r) (execs Γ r) D σ H → u D σ H)
    (q : tS X.K ER W G br fr (outSs S.sg G (.cons s r)) (execs Γ (.cons s r)) D σ H) : tSeq (tS X.K ER W G br fr (outS S.sg G s) (exec Γ s)) u D σ H := by
  obtain ⟨Z, ρ, R, hb, w⟩ := q
  have w' : Wp (ExS X.K ER W Z) (PostF X.K Z fr ((outS S.sg G s).bind fun G' => outSs S.sg G' r) D) ((exec Γ s ρ).bnd fun fl => match fl with
    | .nx ρ1 => execs Γ r ρ1
    | .rt d ρ1 => .ok (.rt d ρ1)) := w
  refine ⟨Z, ρ, R, hb, (wp_bnd w').mono fun fl w1 => ?_⟩
  cases fl with
  | rt d ρ1 => exact w1
  | nx ρ1 =>
    intro G' e σ2 H2 R2
    rw [e] at w1
    exact hu G' e ⟨Z, ρ1, R2, hb, w1⟩
theorem sts_cons {s : IS} {r : ISs} (hs : JS Γ ER S W X br fr G s) (hr : ∀ G', JSs Γ ER S W X br fr G' r) : JSs Γ ER S W X br fr G (.cons s r) := by
  intro xs h
  match xs, h with
  | [], h => cases h
  | y :: ys, h =>
    have h' : (chkS S br fr s G y && (match outS S.sg G s with
      | some G' => chkSs S br fr r G' ys
      | none => ys.isEmpty)) = true := h
    rw [Bool.and_eq_true] at h'
    obtain ⟨h1, h2⟩ := h'
    cases ho : outS S.sg G s with
    | none =>
      rw [ho] at h2
      obtain rfl := List.isEmpty_iff.mp h2
      exact (pss_cons (hs y h1) (pss_never (X := X))).imp fun D σ H q => m_seq (fun G' e => by rw [ho] at e; cases e) q
    | some G' =>
      rw [ho] at h2
      exact (pss_cons (hs y h1) (hr G' ys h2)).imp fun D σ H q => m_seq (fun G2 e => by rw [ho] at e; cases e; exact fun h => h) q
mutual
theorem sndS : ∀ (s : IS) {S : SC} {W : WX} {X : Cx} {G : List Nat}, CxS Γ ER S W X → JS Γ ER S W X br fr G s
  | .asg i e, _, _, _, _, C => st_asg C
  | .unp is e, _, _, _, _, C => st_unp C
  | .setix x k e, _, _, _, _, C => st_setix C
  | .aug o i e, _, _, _, _, C => st_aug C
  | .ex e, _, _, _, _, C => st_ex C
  | .app x e, _, _, _, _, C => st_app C
  | .ext x e, _, _, _, _, C => st_ext C
  | .ret e, _, _, _, _, C => st_ret C
  | .ite c a b, _, _, _, _, C => st_ite C (sndSs a C) (sndSs b C)
  | .for_ g t it b, _, _, _, _, C => st_for C (sndSs b C)
  | .whl g c b, _, _, _, _, C => st_whl C (sndSs b C)
  | .raise c es, _, _, _, _, C => fun x h => by cases (show false = true from h)
  | .nev, _, _, _, _, C => st_nev
  | .pas, _, _, _, _, C => st_pas
theorem sndSs : ∀ (s : ISs) {S : SC} {W : WX} {X : Cx} {G : List Nat}, CxS Γ ER S W X → JSs Γ ER S W X br fr G s
  | .nil, _, _, _, _, C => sts_nil
  | .cons s r, _, _, _, _, C => sts_cons (sndS s C) fun G' => sndSs r C
end
end
end Hx

set_option Elab.async false
set_option linter.all false
set_option maxRecDepth 100000
set_option maxHeartbeats 4000000
/-! H28: a def of the module whose body is checked keeps its promise. -/
namespace Hx
open PySem PySem.Spec PyProof.Rows L2
section
variable {P : Program} {w : World} {K : PySem.W.Frag} {mg : Str → Option Value} {base : Heap} {x qual : Str} {params : Arguments} {body : List Stmt} {scope : Scope} {dvs : List V} {kws : List (Str × V)} {f : Addr} {fd : FuncData} {N ps : List Str} {k : Nat} {sp : Sp}
theorem fn_ofG (F : FunD K x qual params body scope dvs kws f fd) (S : FnScope N ps scope) (len : ∀ vs H Q E, sp vs H Q E → vs.length = ps.length)
    (hbody : ∀ (cdv : Value) (A : Around) (outer : List PySem.Env) (s : Shared) (H : Hp) (vs : List V) (Q : VK) (E : XK), A.guards = some [] → Room k (A.deeper (envOfC qual scope s.heap.objs.size f cdv)) → sp vs H Q E →
      ∃ t, PSs (cxOf (CX P w) P w K mg base N qual scope f cdv A outer s H E) body t ∧ t { nx := fun _ H' => Q .non H', rt := Q } (start N vs) H) : FnG P w K mg base (k + 1) f fd ps sp := by
  obtain ⟨oc, od, dV, kV, doc, pm, an, cdv, ct, osl, rfl, lk, hcd, _, _⟩ := F.ex
  refine ⟨len, fun A outer s H args us vs Q E gd hr e0 hb r hsp => ?_⟩
  have hl := len _ _ _ _ hsp
  have KX : K.In s.heap := e0.mod.kin.keeps fun b o e => (e0.bs b o e).1
  have nl : s.heap.NoLimit := e0.mod.nolimit.keeps fun b o e => (e0.bs b o e).1
  refine codeAny_call_function hr.depth (KX _ _ lk) rfl S.co S.gen rfl (PySem.W.codeRec_of KX hcd) (hb _ _ _ _ ?_)
  refine wpAny_newFunctionEnv_cells S.kind (fun ⟨n, v⟩ hy => ?_) fun env he s1 x => ?_
  · exact (S.par n (List.of_mem_zip hy).1).imp id fun q => ⟨q, PySem.W.cellsFrom_some _ _ _ (.inl q)⟩
  subst he
  refine ⟨nl.keeps x.toInCall.keep, codeAny_func ?_⟩
  obtain ⟨t, ht, hq⟩ := hbody cdv A outer s H vs Q E gd (hr.deeper _) hsp
  refine wpAny_mono (ht.run [] s1 (start N vs) H _ (inv_start S hr.hd e0 hl r x) hq) (fun fl s' hs => ?_) fun e s' hs => hs
  cases fl with
  | ret u =>
    obtain ⟨v, σ', H', J, rv, q⟩ := hs
    exact ⟨v, H', J.os, J.bare, J.base, J.hok, rv, q⟩
  | next =>
    obtain ⟨σ', H', J, q⟩ := hs
    exact ⟨.non, H', J.os, J.bare, J.base, J.hok, rfl, q⟩
  | brk => exact hs.elim fun _ h => h.elim fun _ h => h.2.elim
  | cont => exact hs.elim fun _ h => h.elim fun _ h => h.2.elim
end
/-! ### the entry and the end -/
def zone (M : Addr → Prop) (H : Hp) (br : List Nat) (vs : List V) : Zone where
  M := fun a => M a ∧ ¬ BrAt br vs a
  H := H
  B := br.filterMap fun i => match vs[i]? with
    | some (V.ref p) => some (i, p)
    | _ => none
section
variable {K : PySem.W.Frag} {M : Addr → Prop} {H H' : Hp} {br : List Nat} {vs : List V} {ds : List PyData} {s : Sig} {N : List Str} {fr : Bool}
theorem zone_B {i : Nat} {p : Addr} : (i, p) ∈ (zone M H br vs).B ↔ i ∈ br ∧ vs[i]? = some (.ref p) := by
  show (i, p) ∈ List.filterMap _ br ↔ _
  rw [List.mem_filterMap]
  constructor
  · rintro ⟨j, hj, e⟩
    split at e
    · rename_i q eq
      cases e
      exact ⟨hj, eq⟩
    · cases e
  · rintro ⟨h1, h2⟩
    exact ⟨i, h1, by rw [h2]⟩
theorem zone_br : BrOk (zone M H br vs) br := fun i p h => (zone_B.mp h).1
theorem zone_M {a : Addr} (h : M a) : ZM (zone M H br vs) a := by
  by_cases q : BrAt br vs a
  · obtain ⟨i, h1, h2⟩ := q
    exact .inr ⟨i, zone_B.mpr ⟨h1, h2⟩⟩
  · exact .inl ⟨h, q⟩
def entry (n : Nat) (ds : List PyData) : Env := ds.map some ++ List.replicate (n - ds.length) none
theorem entry_at {n i : Nat} {d : PyData} (e : (entry n ds)[i]? = some (some d)) : ds[i]? = some d := by
  unfold entry at e
  by_cases hi : i < ds.length
  · rw [List.getElem?_append_left (by simpa using hi), List.getElem?_map] at e
    cases q : ds[i]? with
    | none => rw [q] at e; cases e
    | some a => rw [q] at e; cases e; rfl
  · rw [List.getElem?_append_right (by simpa using hi), List.getElem?_replicate] at e
    split at e <;> cases e
theorem start_at {i : Nat} {v : V} (e : vs[i]? = some v) : (start N vs)[i]? = some (some v) := by
  have hi : i < vs.length := (List.getElem?_eq_some_iff.mp e).1
  unfold L2.start
  rw [List.getElem?_append_left (by simpa using hi), List.getElem?_map, e]
  rfl
theorem at_start {i : Nat} {v : V} (e : (start N vs)[i]? = some (some v)) : vs[i]? = some v := by
  unfold L2.start at e
  by_cases hi : i < vs.length
  · rw [List.getElem?_append_left (by simpa using hi), List.getElem?_map] at e
    cases q : vs[i]? with
    | none => rw [q] at e; cases e
    | some a => rw [q] at e; cases e; rfl
  · rw [List.getElem?_append_right (by simpa using hi), List.getElem?_replicate] at e
    split at e <;> cases e
theorem rep_entry (h : CallPre K s M H ds vs) (hN : s.np ≤ N.length) : Rep K (zone M H s.br vs) s.br (entry N.length ds) (start N vs) H := by
  have av : ∀ a, Av (zone M H s.br vs) s.br [] (start N vs) a → M a := fun a z => by
    rcases z with z | ⟨j, h1, _, h3⟩
    · exact z.1
    · obtain ⟨p, xs, ws, e1, e2, e3, e4, r⟩ := h.ref j h1
      have := at_start h3
      rw [e2] at this
      cases this
      exact e3
  refine ⟨?_, fun i d e n => ?_, fun i g => ?_, fun i j p gi gj a b => h.dis i j p gi gj (at_start a) (at_start b), fun i p g a z => z.2 ⟨i, g, at_start a⟩, fun i p g a => .inr (zone_B.mpr ⟨g, at_start a⟩), fun i p b => ⟨(zone_B.mp b).1, start_at (zone_B.mp b).2⟩, fun a o e _ => e, fun a z => h.dom a z.1⟩
  · unfold L2.start entry
    rw [List.length_append, List.length_append, List.length_map, List.length_map, List.length_replicate, List.length_replicate, h.lv, h.ld]
  · have e1 := entry_at e
    have hi : i < vs.length := by rw [h.lv, ← h.ld]; exact (List.getElem?_eq_some_iff.mp e1).1
    exact ⟨vs[i], start_at (List.getElem?_eq_getElem hi), RepD.mono av _ _ (h.arg i d _ e1 (List.getElem?_eq_getElem hi) n)⟩
  · obtain ⟨p, xs, ws, e1, e2, e3, e4, r⟩ := h.ref i g
    refine ⟨p, xs, ws, ?_, start_at e2, e4, RepA.mono av _ _ r⟩
    unfold entry
    rw [List.getElem?_append_left (by simpa using (List.getElem?_eq_some_iff.mp e1).1), List.getElem?_map, e1]
    rfl
theorem outs_ints {ρ : Env} (h : (outs br ρ).all intList = true) {k i : Nat} {xs : List PyData} (hk : br[k]? = some i) (e : ρ[i]? = some (some (.list xs))) : ∃ ns : List Int, xs = ns.map .int ∧ (outs br ρ)[k]? = some (.list (ns.map .int)) := by
  have e1 : (outs br ρ)[k]? = some (.list xs) := by
    unfold outs
    rw [List.getElem?_map, hk, Option.map_some, e]
    rfl
  have := List.all_eq_true.mp h _ (List.mem_of_getElem? e1)
  unfold intList at this
  obtain ⟨ns, e2⟩ := Option.isSome_iff_exists.mp this
  have := intsOf_eq e2
  exact ⟨ns, this, by rw [e1, this]⟩
theorem post_nx {G' : List Nat} {ρ : Env} {σ : L2.St} (hf : s.fr = false) (R : Rep K (zone M H s.br vs) G' ρ σ H') (h : (outs s.br ρ).all intList = true) : CallPost K s M H vs .none (outs s.br ρ) .non H' := by
  have out : ∀ (k i : Nat) (p : Addr), s.br[k]? = some i → vs[i]? = some (V.ref p) → ∃ ns : List Int, (outs s.br ρ)[k]? = some (PyData.list (ns.map .int)) ∧ H' p = some (.lst (ns.map V.int)) := fun k i p e1 e2 => by
    obtain ⟨g, a⟩ := R.byr i p (zone_B.mpr ⟨List.mem_of_getElem? e1, e2⟩)
    obtain ⟨q, xs, ws, e3, a2, e4, r⟩ := R.own i g
    obtain rfl := at_inj a2 a
    obtain ⟨ns, rfl, e5⟩ := outs_ints h e1 e3
    exact ⟨ns, e5, by rw [e4, RepA.ints r]⟩
  refine ⟨by simp only [RepD], fun z => (by rw [hf] at z; cases z), fun a o e n => R.keep a o e fun i z => n ⟨i, zone_B.mp z⟩, by unfold outs; rw [List.length_map], out, fun a z => ?_⟩
  by_cases q : BrAt s.br vs a
  · obtain ⟨i, h1, h2⟩ := q
    obtain ⟨k, hk⟩ := List.mem_iff_getElem?.mp h1
    obtain ⟨ns, _, e⟩ := out k i a hk h2
    exact ⟨_, e⟩
  · exact R.m1 a ⟨z, q⟩
theorem post_rt {ρ : Env} {d : PyData} {v : V} (R : Ret K (zone M H s.br vs) s.fr ρ d v H') (h : (outs s.br ρ).all intList = true) : CallPost K s M H vs d (outs s.br ρ) v H' := by
  have out : ∀ (k i : Nat) (p : Addr), s.br[k]? = some i → vs[i]? = some (V.ref p) → ∃ ns : List Int, (outs s.br ρ)[k]? = some (PyData.list (ns.map .int)) ∧ H' p = some (.lst (ns.map V.int)) := fun k i p e1 e2 => by
    obtain ⟨xs, ws, e3, e4, r⟩ := R.out i p (zone_B.mpr ⟨List.mem_of_getElem? e1, e2⟩)
    obtain ⟨ns, rfl, e5⟩ := outs_ints h e1 e3
    exact ⟨ns, e5, by rw [e4, RepA.ints r]⟩
  refine ⟨RepD.mono (fun a z => zone_M z) _ _ R.val, fun z => Frsh.mono (fun a z => zone_M z) (R.fr z).1, fun a o e n => R.keep a o e fun i z => n ⟨i, zone_B.mp z⟩, by unfold outs; rw [List.length_map], out, fun a z => ?_⟩
  by_cases q : BrAt s.br vs a
  · obtain ⟨i, h1, h2⟩ := q
    obtain ⟨k, hk⟩ := List.mem_iff_getElem?.mp h1
    obtain ⟨ns, _, e⟩ := out k i a hk h2
    exact ⟨_, e⟩
  · exact R.m1 a ⟨z, q⟩
end
/-! ### a def -/
structure MdOk (Γ : List Callee) (ER : ERel) (P : Program) (w : World) (K : PySem.W.Frag) (mg : Str → Option Value) (base : Heap) (sg : List Sig) (con : List (Str × Lit)) (k : Nat) : Prop where
  blt : ∀ x ∈ blts, mg x = none
  con : ∀ p ∈ con, ∃ u, mg p.1 = some u ∧ RelV (litV p.2) u
  cal : ∀ (f : Nat) (s : Sig), sg[f]? = some s → ∃ g, Γ[f]? = some g ∧ s.br = g.br ∧ ∃ (fa : Addr) (fd : FuncData) (ps : List Str), mg s.name = some (.ref fa) ∧ PySem.W.keepIn K (.ref fa) = true ∧ FnG P w K mg base k fa fd ps (spG K ER s g.m) ∧ BindK K fd ps s.kw
def chkF (sg : List Sig) (con : List (Str × Lit)) (N : List Str) (scope : Scope) (s : Sig) (F : Fn) (body : List Stmt) : Bool :=
  chkSs ⟨N, scope, scope, sg, con⟩ s.br s.fr F.body s.br body && (!s.fr || (outSs sg s.br F.body).isNone) && decide (F.n = N.length) && decide (F.np = s.np) && decide (F.br = s.br) && decide (s.np ≤ N.length)
section
variable {Γ : List Callee} {ER : ERel} {P : Program} {w : World} {K : PySem.W.Frag} {mg : Str → Option Value} {base : Heap} {sg : List Sig} {con : List (Str × Lit)} {k : Nat}
theorem def_ok {s : Sig} {F : Fn} {x qual : Str} {params : Arguments} {body : List Stmt} {scope : Scope} {dvs : List V} {kws : List (Str × V)} {f : Addr} {fd : FuncData} {N ps : List Str} (D : FunD K x qual params body scope dvs kws f fd) (S : FnScope N ps scope)
    (m : MdOk Γ ER P w K mg base sg con k) (hp : ps.length = s.np) (h : chkF sg con N scope s F body = true) : FnG P w K mg base (k + 1) f fd ps (spG K ER s (F.mng Γ)) := by
  unfold chkF at h
  simp only [Bool.and_eq_true, decide_eq_true_eq] at h
  obtain ⟨⟨⟨⟨⟨h1, h2⟩, h3⟩, h4⟩, h5⟩, h6⟩ := h
  refine fn_ofG D S (fun vs H Q E q => ?_) fun cdv A outer s0 H vs Q E gd hr q => ?_
  · obtain ⟨M, ds, pre, _⟩ := q
    rw [pre.lv, hp]
  · obtain ⟨M, ds, pre, wq⟩ := q
    have C : CxS Γ ER ⟨N, scope, scope, sg, con⟩ (fun cls d _ H => E cls d H) (cxOf (CX P w) P w K mg base N qual scope f cdv A outer s0 H E) := by
      refine ⟨⟨rfl, rfl, S.nd, rfl, ?_, gd, fun _ _ => rfl, m.blt, m.con, fun f s e => ?_, ?_⟩, ?_⟩
      · have := hr.un
        show (A.deeper (envOfC qual scope s0.heap.objs.size f cdv)).units + 120 < cLine
        omega
      · obtain ⟨g, e1, e2, fa, fd', ps', e3, e4, e5, e6⟩ := m.cal f s e
        exact ⟨g, e1, e2, k, fa, fd', ps', e3, e4, e5, hr, e6⟩
      · exact takes_of rfl rfl rfl rfl
      · exact passes_of (K := fun e s'' => CX P w outer H s0 E e s'') rfl
    refine ⟨_, sndSs F.body C body h1, zone M H s.br vs, entry N.length ds, rep_entry pre h6, zone_br, ?_⟩
    have hm : F.mng Γ ds = ended s.br (execs Γ F.body (entry N.length ds)) := by
      unfold Fn.mng
      rw [if_pos (by rw [pre.ld, h4]), h5]
      unfold entry
      rw [h3, h4, pre.ld]
    rw [hm] at wq
    cases hx : execs Γ F.body (entry N.length ds) with
    | stuck =>
      rw [hx] at wq
      exact wq.elim
    | exc c xs ρ =>
      rw [hx] at wq
      exact fun cls dx σ G H' er R => wq cls dx H' er fun a o e n => R.keep a o e fun i z => n ⟨i, zone_B.mp z⟩
    | ok fl =>
      rw [hx] at wq
      cases fl with
      | nx ρ =>
        have w2 : Wp _ _ (if (outs s.br ρ).all intList = true then (.ok (.none, outs s.br ρ) : Res (PyData × List PyData)) else .stuck) := wq
        by_cases ho : (outs s.br ρ).all intList = true
        · rw [if_pos ho] at w2
          intro G' e σ H' R
          have hf : s.fr = false := by
            have e' : outSs sg s.br F.body = some G' := e
            rw [e'] at h2
            simpa using h2
          exact w2 _ _ (post_nx hf R ho)
        · rw [if_neg ho] at w2
          exact w2.elim
      | rt d ρ =>
        have w2 : Wp _ _ (if (outs s.br ρ).all intList = true then (.ok (d, outs s.br ρ) : Res (PyData × List PyData)) else .stuck) := wq
        by_cases ho : (outs s.br ρ).all intList = true
        · rw [if_pos ho] at w2
          intro v H' R
          exact w2 _ _ (post_rt R ho)
        · rw [if_neg ho] at w2
          exact w2.elim
end
end Hx

set_option Elab.async false
set_option linter.all false
set_option maxRecDepth 100000
set_option maxHeartbeats 4000000
/-! H29: all defs of a module; the law's end. -/
namespace Hx
open PySem PySem.Spec PyProof.Rows L2
/-- a def of the module -/
structure DefR where
  sig : Sig
  ps : List Str
  N : List Str
  F : Fn
  args : Arguments
  body : List Stmt
  scope : Scope
noncomputable def addC (Γ : List Callee) (d : DefR) : List Callee := Γ ++ [⟨d.sig.br, d.F.mng Γ⟩]
def scB (N P : List Str) (sc : Scope) : Bool := funB sc && !sc.isCoroutine && !sc.isGenerator && decide N.Nodup && decide (N.take P.length = P) && (P.all fun x => match sc.names.lookup x with
  | some .local => true
  | some .cell => true
  | _ => false) && sc.names.all fun y => match y.2 with
  | .free => false
  | _ => true
theorem scB_of {N P : List Str} {sc : Scope} (h : scB N P sc = true) : FnScope N P sc := by
  unfold scB at h
  simp only [Bool.and_eq_true, Bool.not_eq_true', decide_eq_true_eq, List.all_eq_true] at h
  obtain ⟨⟨⟨⟨⟨⟨h1, h2⟩, h3⟩, h4⟩, h5⟩, h6⟩, h7⟩ := h
  refine ⟨funB_of h1, h2, h3, h4, h5, fun x hx => ?_, fun y hy e => ?_⟩
  · have := h6 x hx
    split at this
    · exact .inl (by assumption)
    · exact .inr (by assumption)
    · cases this
  · have := h7 y hy
    rw [e] at this
    cases this
def chkD (con : List (Str × Lit)) (sg : List Sig) (d : DefR) : Bool := scB d.N d.ps d.scope && decide (d.ps.length = d.sig.np) && chkF sg con d.N d.scope d.sig d.F d.body
def chkAll (con : List (Str × Lit)) : List Sig → List DefR → Bool
  | _, [] => true
  | sg, d :: r => chkD con sg d && chkAll con (sg ++ [d.sig]) r
/-- the keyword-only parameter's default -/
def kwV : Option (Str × Lit) → List (Str × V)
  | none => []
  | some kw => [(kw.1, litV kw.2)]
structure DefOk (K : PySem.W.Frag) (mg : Str → Option Value) (d : DefR) : Prop where
  ex : ∃ (fa : Addr) (fd : FuncData) (name qual : Str), mg d.sig.name = some (.ref fa) ∧ FunD K name qual d.args d.body d.scope [] (kwV d.sig.kw) fa fd ∧ BindK K fd d.ps d.sig.kw
section
variable {Γ : List Callee} {ER : ERel} {P : Program} {w : World} {K : PySem.W.Frag} {mg : Str → Option Value} {base : Heap} {sg : List Sig} {con : List (Str × Lit)} {k : Nat}
theorem FnG.mono {j : Nat} {f : Addr} {fd : FuncData} {ps : List Str} {sp : Sp} (F : FnG P w K mg base j f fd ps sp) (h : j ≤ k) : FnG P w K mg base k f fd ps sp :=
  ⟨F.len, fun A outer s H args us vs Q E gd hr e0 hb r q => F.run A outer s H args us vs Q E gd (hr.mono h) e0 hb r q⟩
theorem MdOk.add (m : MdOk Γ ER P w K mg base sg con k) (hl : Γ.length = sg.length) {d : DefR} (h : chkD con sg d = true) (o : DefOk K mg d) : MdOk (addC Γ d) ER P w K mg base (sg ++ [d.sig]) con (k + 1) := by
  unfold chkD at h
  simp only [Bool.and_eq_true, decide_eq_true_eq] at h
  obtain ⟨⟨h1, h2⟩, h3⟩ := h
  refine ⟨m.blt, m.con, fun f s e => ?_⟩
  by_cases hf : f < sg.length
  · rw [List.getElem?_append_left hf] at e
    obtain ⟨g, e1, e2, fa, fd, ps, e3, e4, e5, e6⟩ := m.cal f s e
    refine ⟨g, ?_, e2, fa, fd, ps, e3, e4, e5.mono (Nat.le_succ _), e6⟩
    unfold addC
    rw [List.getElem?_append_left (by rw [hl]; exact hf)]
    exact e1
  · rw [List.getElem?_append_right (by omega)] at e
    have hz : f - sg.length = 0 := by
      have := (List.getElem?_eq_some_iff.mp e).1
      simp at this
      omega
    rw [hz] at e
    cases e
    obtain ⟨fa, fd, name, qual, e1, D, b⟩ := o.ex
    refine ⟨⟨d.sig.br, d.F.mng Γ⟩, ?_, rfl, fa, fd, d.ps, e1, D.kp, def_ok D (scB_of h1) m h2 h3, b⟩
    unfold addC
    rw [List.getElem?_append_right (by omega), hl, hz]
    rfl
theorem MdOk.all : ∀ (ds : List DefR) {Γ : List Callee} {sg : List Sig} {k : Nat}, MdOk Γ ER P w K mg base sg con k → Γ.length = sg.length → chkAll con sg ds = true → (∀ d ∈ ds, DefOk K mg d) → MdOk (ds.foldl addC Γ) ER P w K mg base (sg ++ ds.map (·.sig)) con (k + ds.length)
  | [], Γ, sg, k, m, _, _, _ => by simpa using m
  | d :: ds, Γ, sg, k, m, hl, h, o => by
    have h' : (chkD con sg d && chkAll con (sg ++ [d.sig]) ds) = true := h
    rw [Bool.and_eq_true] at h'
    have m2 := MdOk.all ds (m.add hl h'.1 (o d List.mem_cons_self)) (by unfold addC; simp [hl]) h'.2 fun d hd => o d (List.mem_cons_of_mem _ hd)
    have e1 : sg ++ (d :: ds).map (·.sig) = sg ++ [d.sig] ++ ds.map (·.sig) := by simp
    have e2 : k + (d :: ds).length = k + 1 + ds.length := by rw [List.length_cons]; omega
    rw [e1, e2]
    exact m2
/-- the last def, as it is called -/
theorem last_ok {ds : List DefR} {d : DefR} {fa : Addr} {fd : FuncData} {name qual : Str} (hb : ∀ x ∈ blts, mg x = none) (hc : ∀ p ∈ con, ∃ u, mg p.1 = some u ∧ RelV (litV p.2) u) (h : chkAll con [] (ds ++ [d]) = true) (o : ∀ e ∈ ds, DefOk K mg e)
    (D : FunD K name qual d.args d.body d.scope [] [] fa fd) : FnG P w K mg base (ds.length + 1) fa fd d.ps (spG K ER d.sig (d.F.mng (ds.foldl addC []))) := by
  have split : ∀ (l : List DefR) (sg : List Sig), chkAll con sg (l ++ [d]) = true → chkAll con sg l = true ∧ chkD con (sg ++ l.map (·.sig)) d = true := by
    intro l
    induction l with
    | nil =>
      intro sg h
      have h' : (chkD con sg d && true) = true := h
      rw [Bool.and_true] at h'
      exact ⟨rfl, by simpa using h'⟩
    | cons e l ih =>
      intro sg h
      have h' : (chkD con sg e && chkAll con (sg ++ [e.sig]) (l ++ [d])) = true := h
      rw [Bool.and_eq_true] at h'
      obtain ⟨q1, q2⟩ := ih _ h'.2
      refine ⟨?_, ?_⟩
      · show (chkD con sg e && chkAll con (sg ++ [e.sig]) l) = true
        rw [h'.1, q1]; rfl
      · rw [List.append_assoc] at q2
        exact q2
  obtain ⟨h1, h2⟩ := split ds [] h
  have m0 : MdOk [] ER P w K mg base [] con 0 := ⟨hb, hc, fun f s e => by simp at e⟩
  have m := MdOk.all ds m0 rfl h1 o
  rw [Nat.zero_add, List.nil_append] at m
  rw [List.nil_append] at h2
  unfold chkD at h2
  simp only [Bool.and_eq_true, decide_eq_true_eq] at h2
  obtain ⟨⟨q1, q2⟩, q3⟩ := h2
  exact def_ok D (scB_of q1) m q2 q3
end
/-! ### the law's end -/
section
theorem call_topG {P : Program} {w : World} {K : PySem.W.Frag} {mg mb : Str → Option Value} {k : Nat} {fa a : Addr} {fd : FuncData} {x : Str} {sp : Sp} {s₁ : Shared} {vs : List Value} {ns : List Int}
    (KX : K.In s₁.heap) (hns : s₁.heap.Ns mainGlobals mg) (hb : s₁.heap.Ns builtinsNs mb) (hbb : ∀ x : Str, x ≠ "__name__" → mb x = bootBuiltins x) (hlim : s₁.heap.NoLimit) (hg : s₁.gens = #[])
    (ha : s₁.heap.get? a = some { cls := .type "list", data := .seq vs.toArray }) (hi : IntsAre vs ns) (hl : ns.length ≤ sizeLine) (hr : Room k callerA)
    (F : ∀ base : Heap, K.In base → base.Ns mainGlobals mg → FnG P w K mg base k fa fd [x] sp) (hbind : ∀ (s : Shared) (u : Value), BindsTo s fd ⟨[u], []⟩ [(x, u)])
    (hsp : ∀ H : Hp, LL K H a (ns.map V.int) → sp [.ref a] H (fun v _ => v = .bl true) fun _ _ _ => False) :
    codeAny (model P w) callerA (.call (.ref fa) ⟨[.ref a], []⟩) (fun r s' => r = .ok (.ret (.bool true)) ∧ OldK s₁.heap s'.heap ∧ s'.os = s₁.os ∧ AllBare s'.gens) s₁ := by
  have rv := vals_ints hi
  have lv := hi.length
  have main : ∀ H : Hp, (∀ b u, H b = some u → b = a ∧ u = .frz { cls := .type "list", data := .seq vs.toArray } (.lst (ns.map V.int)) ∧ K.lookup a = none) → LL K H a (ns.map V.int) → HOk P w H s₁.heap →
      codeAny (model P w) callerA (.call (.ref fa) ⟨[.ref a], []⟩) (fun r s' => r = .ok (.ret (.bool true)) ∧ OldK s₁.heap s'.heap ∧ s'.os = s₁.os ∧ AllBare s'.gens) s₁ := by
    intro H hO hS hok
    have free : ∀ {b : Addr} {o : Obj}, s₁.heap.get? b = some o → (∀ es ep, b = a → o.data ≠ .dict es ep → False) → H b = none := fun {b o} e n => by
      cases q : H b with
      | none => rfl
      | some u =>
        obtain ⟨rfl, rfl, _⟩ := hO b u q
        rw [ha] at e
        cases e
        exact (n #[] 0 rfl (fun z => by cases z)).elim
    have nsK : ∀ {b : Addr} {m : Str → Option Value}, s₁.heap.Ns b m → (hidT s₁.heap H).Ns b m := fun {b m} ⟨o, es, ep, e, d, r⟩ => by
      refine ⟨o, es, ep, hidT_get e ?_, d, r⟩
      cases q : H b with
      | none => rfl
      | some u =>
        obtain ⟨rfl, _, _⟩ := hO b u q
        rw [ha] at e
        cases e
        cases d
    have hKb : K.In (hidT s₁.heap H) := fun b o e => hidT_get (KX b o e) (by
      cases q : H b with
      | none => rfl
      | some u =>
        obtain ⟨rfl, _, z⟩ := hO b u q
        rw [z] at e
        cases e)
    have e0 : Env0 P w K mg (hidT s₁.heap H) callerA [] s₁ H :=
      ⟨rfl, ⟨hKb, nsK hns, ⟨mb, nsK hb, hbb⟩, hlim.elim fun mc h => ⟨mc, nsK h.1, h.2⟩⟩, fun b o e => of_hidT e, Nat.le_of_eq (hidT_size _ _), trivial, fun b hb => (List.not_mem_nil hb).elim, hok, .of_eq hg⟩
    refine codeAny_mono ((F _ hKb (nsK hns)).run callerA [] s₁ H ⟨[.ref a], []⟩ [.ref a] [.ref a] _ _ rfl hr e0 (hbind s₁ (.ref a)) (.cons rfl .nil) (hsp H hS)) fun r s' h => ?_
    match r, h with
    | .error e, h =>
      obtain ⟨_, _, _, _, _, _, _, _, _, _, _, _, z⟩ := h
      exact z.elim
    | .ok (.ret u), h =>
      obtain ⟨v, H', os, bare, un, hok', r', q⟩ := h
      obtain rfl : v = .bl true := q
      obtain rfl : u = Value.bool true := r'
      refine ⟨rfl, OldK.of_keep fun b o e => ?_, os, bare⟩
      cases q : H b with
      | none => exact un.keep b o e q (fun z => (List.not_mem_nil z).elim) (by simp)
      | some u =>
        obtain ⟨rfl, rfl, _⟩ := hO b u q
        have e2 := (hok' b _ (un.frzs b _ _ q)).1
        rw [ha] at e
        cases e
        exact e2
  cases hk : K.lookup a with
  | some o =>
    have e := KX a o hk
    rw [ha] at e
    cases e
    exact main (fun _ => none) (fun b u z => by cases z) (.inr ⟨vs, _, hk, by rw [lv]; exact hl, rv⟩) fun b u z => by cases z
  | none =>
    have at' : ∀ {b : Addr} {u : HO}, (if b = a then some (HO.frz { cls := .type "list", data := .seq vs.toArray } (.lst (ns.map V.int))) else none) = some u → b = a ∧ u = .frz { cls := .type "list", data := .seq vs.toArray } (.lst (ns.map V.int)) := fun {b u} z => by
      by_cases h : b = a
      · rw [if_pos h] at z
        exact ⟨h, (Option.some.inj z).symm⟩
      · rw [if_neg h] at z
        cases z
    refine main (fun b => if b = a then some (.frz { cls := .type "list", data := .seq vs.toArray } (.lst (ns.map V.int))) else none) (fun b u z => ⟨(at' z).1, (at' z).2, hk⟩) (.inl (.inr ⟨_, if_pos rfl⟩)) fun b u z => ?_
    obtain ⟨rfl, rfl⟩ := at' z
    exact ⟨ha, by rw [List.length_map]; exact hl, vs, _, rv, ha⟩
/-- the walk of a law whose def takes the script -/
theorem walk_ofG {l : PySem.W.OpenLaw} {n k : Nat} {q : Program} {loose : List Str} {XP : (Str → Option Value) → Heap → Prop} {YP : World → Heap → Prop} {d : DefRec} {x : Str}
    (hn : l.most = some n) (hn2 : n ≤ sizeLine) (hdf : d.params.defaults = []) (hr : Room k callerA)
    (F : ∀ (w : World) (mg : Str → Option Value) (fa : Addr) (h : Heap), YP w h → h.Ns mainGlobals mg → mg d.name = some (.ref fa) →
      ∃ (K : PySem.W.Frag) (fd : FuncData) (sp : Sp), K.In h ∧ (∀ (s : Shared) (u : Value), BindsTo s fd ⟨[u], []⟩ [(x, u)]) ∧
        (∀ (H : Hp) (a : Addr) (ns : List Int), ns.length ≤ n → (∀ z ∈ ns, Builtin.Int.intBits z ≤ 1048576) → LL K H a (ns.map V.int) → sp [.ref a] H (fun v _ => v = .bl true) fun _ _ _ => False) ∧
        ∀ base : Heap, K.In base → base.Ns mainGlobals mg → FnG l.prog w K mg base k fa fd [x] sp) :
    PySem.W.WalkO q loose XP YP l.row.toRowW d [] (fun f vs => PySem.call f vs) := by
  refine Att.attach_callB hn hdf fun w s₀ s₁ mg mb fa o pm cd doc a vs ns G Y ho hd hcd hmg hobj hints hlen hbits hg => ?_
  obtain ⟨K, fd, sp, KX, hb, hsp, hF⟩ := F w mg fa _ Y G.T.g hmg
  exact call_topG KX G.T.g G.T.b G.T.builtins G.T.nolimit hg hobj hints (Nat.le_trans hlen hn2) hr hF hb fun H hS => hsp H a ns hlen hbits hS
/-- the law's promise from its meaning -/
theorem law_sp {K : PySem.W.Frag} {ER : ERel} {s : Sig} {m : Mng} {H : Hp} {a : Addr} {ns : List Int} (hs : s.np = 1) (hb : s.br = []) (hS : LL K H a (ns.map V.int)) (h : m [.list (ns.map .int)] = .ok (.bool true, [])) :
    spG K ER s m [.ref a] H (fun v _ => v = .bl true) fun _ _ _ => False := by
  refine ⟨fun _ => False, [.list (ns.map .int)], ⟨by rw [hs]; rfl, by rw [hs]; rfl, fun a z => z.elim, fun i d v e1 e2 _ => ?_, fun i hi => (by rw [hb] at hi; cases hi), fun i j p hi => (by rw [hb] at hi; cases hi)⟩, ?_⟩
  · cases i with
    | zero =>
      cases e1
      cases e2
      simp only [RepD]
      exact ⟨a, _, rfl, hS.imp (fun z => ⟨z, fun z => z⟩) id, RepA.ofInts ns⟩
    | succ i => simp at e1
  · rw [h]
    intro v H' p
    have := p.val
    simpa only [RepD] using this
end
end Hx

set_option Elab.async false
set_option linter.all false
set_option maxRecDepth 100000
set_option maxHeartbeats 4000000
/-! H30: the head's facts: where the defs stand, what is free, the constants. -/
namespace Hx
open PySem PySem.Spec PyProof.Rows L2
def plainA (a : Arguments) (ps : List Str) : Bool := a.posonlyargs.isEmpty && a.vararg.isNone && a.kwonlyargs.isEmpty && a.kwarg.isNone && decide (a.args.map (·.arg) = ps)
theorem zip_lookup {n : Str} : ∀ {ps : List Str} {us : List Value}, us.length = ps.length → n ∈ ps → ∃ u, (ps.zip us).lookup n = some u
  | p :: ps, u :: us, hl, h => by
    show ∃ v, List.lookup n ((p, u) :: ps.zip us) = some v
    rw [List.lookup_cons]
    by_cases e : n = p
    · subst e
      exact ⟨u, by simp⟩
    · have : (n == p) = false := by simpa using e
      rw [this]
      exact zip_lookup (by simpa using hl) ((List.mem_cons.mp h).resolve_left e)
  | [], _, _, h => by cases h
  | _ :: _, [], hl, _ => by simp at hl
theorem zip_all : ∀ {ps : List Str} {us : List Value}, ps.Nodup → us.length = ps.length → (ps.filterMap fun n => ((ps.zip us).lookup n).map (n, ·)) = ps.zip us := by
  have aux : ∀ (ps : List Str) (us : List Value) (l : List (Str × Value)), ps.Nodup → us.length = ps.length → (∀ n ∈ ps, (l ++ ps.zip us).lookup n = (ps.zip us).lookup n) → (ps.filterMap fun n => ((l ++ ps.zip us).lookup n).map (n, ·)) = ps.zip us := by
    intro ps
    induction ps with
    | nil => intro us l _ _ _; rfl
    | cons p ps ih =>
      intro us l nd hl h
      match us, hl with
      | u :: us, hl =>
        have e0 : (l ++ (p :: ps).zip (u :: us)).lookup p = some u := by
          rw [h p List.mem_cons_self]
          show List.lookup p ((p, u) :: ps.zip us) = _
          rw [List.lookup_cons]
          simp
        rw [List.filterMap_cons, e0]
        show (p, u) :: _ = (p, u) :: ps.zip us
        congr 1
        have e1 : l ++ (p :: ps).zip (u :: us) = (l ++ [(p, u)]) ++ ps.zip us := by simp
        rw [e1]
        refine ih us (l ++ [(p, u)]) (List.nodup_cons.mp nd).2 (by simpa using hl) fun n hn => ?_
        have np : n ≠ p := fun z => (List.nodup_cons.mp nd).1 (by rw [← z]; exact hn)
        rw [← e1, h n (List.mem_cons_of_mem _ hn)]
        show List.lookup n ((p, u) :: ps.zip us) = _
        rw [List.lookup_cons]
        have : (n == p) = false := by simpa using np
        rw [this]
  intro ps us nd hl
  exact aux ps us [] nd hl fun n _ => rfl
theorem bind_plain {x qual : Str} {a : Arguments} {body : List Stmt} {scope : Scope} {kV doc pm cdv ct : Value} {an : Option Addr} {ps : List Str} {us : List Value} (h : plainA a ps = true) (nd : ps.Nodup) (hl : us.length = ps.length) :
    bindArgs (PySem.W.fnOf x qual a body scope .none kV doc pm an cdv ct) ⟨us, []⟩ = pure (ps.zip us) := by
  unfold plainA at h
  simp only [Bool.and_eq_true, List.isEmpty_iff, Option.isNone_iff_eq_none, decide_eq_true_eq] at h
  obtain ⟨⟨⟨⟨h1, h2⟩, h3⟩, h4⟩, h5⟩ := h
  obtain ⟨po, ar, va, ko, kd, ka, df⟩ := a
  simp only at h1 h2 h3 h4 h5
  subst h1 h2 h3 h4
  have e1 : (ps.filter fun n => (List.lookup n (ps.zip us)).isNone) = [] := List.filter_eq_nil_iff.mpr fun n hn => by
    obtain ⟨u, hu⟩ := zip_lookup hl hn
    rw [hu]
    simp
  unfold bindArgs
  simp only [PySem.W.fnOf, h5, List.map_nil, List.nil_append, List.append_nil]
  simp [seqItems?, hl, e1, zip_all nd hl]
  rfl
def plainK (a : Arguments) (ps : List Str) (kn : Str) : Bool := a.posonlyargs.isEmpty && a.vararg.isNone && decide (a.kwonlyargs.map (·.arg) = [kn]) && a.kwarg.isNone && decide (a.args.map (·.arg) ++ [kn] = ps)
theorem lookup_none {n : Str} : ∀ {ps : List Str} {us : List Value}, n ∉ ps → (ps.zip us).lookup n = none
  | [], _, _ => rfl
  | p :: ps, [], _ => rfl
  | p :: ps, u :: us, h => by
    show List.lookup n ((p, u) :: ps.zip us) = none
    rw [List.lookup_cons]
    have : (n == p) = false := by simpa using fun e : n = p => h (by rw [e]; exact List.mem_cons_self)
    rw [this]
    exact lookup_none fun z => h (List.mem_cons_of_mem _ z)
theorem zip_snoc {ps : List Str} {us : List Value} {p : Str} {u : Value} (h : us.length = ps.length) : (ps ++ [p]).zip (us ++ [u]) = ps.zip us ++ [(p, u)] := by
  rw [List.zip_append h.symm]
  rfl
theorem bind_kw {x qual : Str} {a : Arguments} {body : List Stmt} {scope : Scope} {kV doc pm cdv ct : Value} {an : Option Addr} {ps : List Str} {kn : Str} {us : List Value} {u : Value} (h : plainK a ps kn = true) (nd : ps.Nodup) (hl : us.length + 1 = ps.length) :
    bindArgs (PySem.W.fnOf x qual a body scope .none kV doc pm an cdv ct) ⟨us, [(kn, u)]⟩ = pure (ps.zip (us ++ [u])) := by
  unfold plainK at h
  simp only [Bool.and_eq_true, List.isEmpty_iff, Option.isNone_iff_eq_none, decide_eq_true_eq] at h
  obtain ⟨⟨⟨⟨h1, h2⟩, h3⟩, h4⟩, h5⟩ := h
  obtain ⟨po, ar, va, ko, kd, ka, df⟩ := a
  simp only at h1 h2 h3 h4 h5
  subst h1 h2 h4
  generalize hq : ar.map (·.arg) = qs at h5
  subst h5
  have lq : us.length = qs.length := by simpa using hl
  have nk : kn ∉ qs := fun z => by
    have := (List.nodup_append.mp nd).2.2
    exact this _ z _ List.mem_cons_self rfl
  have e0 := lookup_none (us := us) nk
  have e1 : (qs.filter fun n => (List.lookup n ((qs ++ [kn]).zip (us ++ [u]))).isNone) = [] := List.filter_eq_nil_iff.mpr fun n hn => by
    obtain ⟨w, hw⟩ := zip_lookup (n := n) (ps := qs ++ [kn]) (us := us ++ [u]) (by simp [lq]) (by simp [hn])
    rw [hw]
    simp
  obtain ⟨w, hw⟩ := zip_lookup (n := kn) (ps := qs ++ [kn]) (us := us ++ [u]) (by simp [lq]) (by simp)
  have ez := zip_all (ps := qs ++ [kn]) (us := us ++ [u]) nd (by simp [lq])
  rw [zip_snoc lq] at e1 hw ez ⊢
  unfold bindArgs
  simp only [PySem.W.fnOf, hq, h3, List.map_nil, List.nil_append, List.append_nil]
  simp [seqItems?, lq, e0, e1, hw]
  have ez' : (List.filterMap (fun n => Option.map (fun x => (n, x)) (List.lookup n (qs.zip us ++ [(kn, u)]))) qs) ++ [(kn, w)] = qs.zip us ++ [(kn, u)] := by
    rw [List.filterMap_append] at ez
    simpa [hw] using ez
  simp only [ez']
  rfl
theorem bind_df {M : Model} {hp : Heap} {K : PySem.W.Frag} (X : K.In hp) {x qual : Str} {a : Arguments} {body : List Stmt} {scope : Scope} {doc pm cdv ct : Value} {D : Addr} {an : Option Addr} {ps : List Str} {kn : Str} {us : List Value} {u : Value} (hd : PySem.W.nsIn K D kn = some (some u)) (h : plainK a ps kn = true) (nd : ps.Nodup) (hl : us.length + 1 = ps.length) :
    PySem.W.Looks M hp (bindArgs (PySem.W.fnOf x qual a body scope .none (.ref D) doc pm an cdv ct) ⟨us, []⟩) (ps.zip (us ++ [u])) := by
  unfold plainK at h
  simp only [Bool.and_eq_true, List.isEmpty_iff, Option.isNone_iff_eq_none, decide_eq_true_eq] at h
  obtain ⟨⟨⟨⟨h1, h2⟩, h3⟩, h4⟩, h5⟩ := h
  obtain ⟨po, ar, va, ko, kd, ka, df⟩ := a
  simp only at h1 h2 h3 h4 h5
  subst h1 h2 h4
  generalize hq : ar.map (·.arg) = qs at h5
  subst h5
  have lq : us.length = qs.length := by simpa using hl
  have nk : kn ∉ qs := fun z => by
    have := (List.nodup_append.mp nd).2.2
    exact this _ z _ List.mem_cons_self rfl
  have nq : qs.Nodup := (List.nodup_append.mp nd).1
  have e0 := lookup_none (us := us) nk
  have e1 : (qs.filter fun n => (List.lookup n (qs.zip us)).isNone) = [] := List.filter_eq_nil_iff.mpr fun n hn => by
    obtain ⟨w, hw⟩ := zip_lookup (n := n) (ps := qs) (us := us) lq hn
    rw [hw]
    simp
  have ez := zip_all (ps := qs ++ [kn]) (us := us ++ [u]) nd (by simp [lq])
  rw [zip_snoc lq] at ez ⊢
  rw [List.filterMap_append] at ez
  unfold bindArgs
  simp only [PySem.W.fnOf, hq, h3, List.map_nil, List.nil_append, List.append_nil]
  simp [seqItems?, lq, e0, e1]
  refine PySem.W.Looks.andThen (a := ()) (PySem.W.Looks.of_pure rfl) ?_
  refine (PySem.W.looks_nsIn X hd).andThen ?_
  refine PySem.W.Looks.of_pure ?_
  simp only [pure_bind, if_true, ez]
/-- a def with its keyword-only parameter -/
theorem kw_of {K : PySem.W.Frag} {x qual : Str} {a : Arguments} {body : List Stmt} {scope : Scope} {f : Addr} {fd : FuncData} {ps : List Str} {kn : Str} {c : Lit} (F : FunD K x qual a body scope [] [(kn, litV c)] f fd) (h : plainK a ps kn = true) (nd : ps.Nodup) : KwOk K fd ps kn c := by
  obtain ⟨oc, od, dV, kV, doc, pm, an, cdv, ct, osl, rfl, lk, hcd, hD, hK⟩ := F.ex
  rcases hD with ⟨_, rfl⟩ | ⟨e, _⟩
  · rcases hK with e | ⟨D, rfl, hq⟩
    · cases e
    · obtain ⟨ks, hl, rk, hks⟩ := kwd_vals hq
      obtain ⟨u, rfl, r⟩ := vals1 rk
      · exact ⟨⟨u, r, fun s us X hlen => BindsTo.of_looks fun M => bind_df X (hks (kn, u) List.mem_cons_self) h nd (by simpa using hlen)⟩, fun s us u' X hl => .of_eq (bind_kw h nd hl)⟩
  · exact absurd rfl e
def dvL : Lit → He.Dv
  | .non => .non
  | .bl b => .bl b
  | .int i => .int i
  | .str s => .str s
def dvK : Option (Str × Lit) → List (Str × He.Dv)
  | none => []
  | some kw => [(kw.1, dvL kw.2)]
theorem dvK_v {K : PySem.W.Frag} (kw : Option (Str × Lit)) : (dvK kw).map (fun q => (q.1, q.2.v K)) = kwV kw := by
  cases kw with
  | none => rfl
  | some p =>
    obtain ⟨n, c⟩ := p
    cases c <;> rfl
def bindB (d : DefR) : Bool := match d.sig.kw with
  | none => plainA d.args d.ps
  | some kw => plainK d.args d.ps kw.1
/-! ### the facts -/
def toD (d : DefR) : He.DefD := ⟨(d.sig.name, none), d.sig.name, d.sig.name, d.args, d.body, d.scope, [], dvK d.sig.kw⟩
def conF (p : Str × Lit) : He.Fa := match p.2 with
  | .int i => .int p.1 i
  | .str z => .str p.1 z
  | _ => .free p.1
def faOf (con : List (Str × Lit)) (ds : List DefR) : List He.Fa := ds.map (fun d => .glo d.sig.name) ++ (blts.map .free ++ con.map conF)
def conB (p : Str × Lit) : Bool := match p.2 with
  | .int _ => true
  | .str _ => true
  | _ => false
section
variable {K : PySem.W.Frag} {h : Heap} {mg : Str → Option Value} {con : List (Str × Lit)} {ds : List DefR}
theorem fact_mem {fa : List He.Fa} {fn : List He.DefD} (c : He.SaysD fa fn K) {f : He.Fa} (h : f ∈ fa) : f.ok K = true := by
  obtain ⟨i, hi⟩ := List.mem_iff_getElem?.mp h
  exact c.fact i hi
theorem def_mem {fa : List He.Fa} {fn : List He.DefD} (c : He.SaysD fa fn K) {d : He.DefD} (h : d ∈ fn) : ∃ fd, FunD K d.name d.qual d.params d.body d.scope (d.dvs K) (d.kws K) (He.fAd K d.at_) fd := by
  obtain ⟨i, hi⟩ := List.mem_iff_getElem?.mp h
  exact c.def_ i hi
theorem defs_ok (c : He.SaysD (faOf con ds) (ds.map toD) K) (X : K.In h) (G : h.Ns mainGlobals mg) (hp : (ds.all fun d => bindB d && decide d.ps.Nodup) = true) : ∀ d ∈ ds, DefOk K mg d := fun d hd => by
  have hp' := List.all_eq_true.mp hp d hd
  rw [Bool.and_eq_true, decide_eq_true_eq] at hp'
  obtain ⟨fd, F⟩ := def_mem c (List.mem_map_of_mem (f := toD) hd)
  have F0 : FunD K d.sig.name d.sig.name d.args d.body d.scope [] ((dvK d.sig.kw).map fun q => (q.1, q.2.v K)) (He.ga K d.sig.name) fd := F
  rw [dvK_v] at F0
  have F' : FunD K d.sig.name d.sig.name d.args d.body d.scope [] (kwV d.sig.kw) (He.ga K d.sig.name) fd := F0
  have g := He.glo_ok X G (fact_mem c (f := .glo d.sig.name) (List.mem_append_left _ (List.mem_map_of_mem (f := fun d : DefR => He.Fa.glo d.sig.name) hd)))
  refine ⟨_, fd, _, _, g, F', ?_⟩
  have hb := hp'.1
  unfold bindB at hb
  cases hkw : d.sig.kw with
  | none =>
    rw [hkw] at hb F'
    exact F'.bindsN fun kV doc pm an cdv ct us hl => bind_plain hb hp'.2 hl
  | some kw =>
    rw [hkw] at hb F'
    exact kw_of F' hb hp'.2
theorem free_all (c : He.SaysD (faOf con ds) (ds.map toD) K) (X : K.In h) (G : h.Ns mainGlobals mg) : ∀ x ∈ blts, mg x = none := fun x hx =>
  He.free_ok X G (fact_mem c (f := .free x) (List.mem_append_right _ (List.mem_append_left _ (List.mem_map_of_mem (f := He.Fa.free) hx))))
theorem con_all (c : He.SaysD (faOf con ds) (ds.map toD) K) (X : K.In h) (G : h.Ns mainGlobals mg) (hc : con.all conB = true) : ∀ p ∈ con, ∃ u, mg p.1 = some u ∧ RelV (litV p.2) u := fun p hp => by
  have f := fact_mem c (f := conF p) (List.mem_append_right _ (List.mem_append_right _ (List.mem_map_of_mem (f := conF) hp)))
  have hb := List.all_eq_true.mp hc p hp
  obtain ⟨x, l⟩ := p
  cases l with
  | int i =>
    obtain ⟨t, e⟩ := He.int_ok X G (x := x) (i := i) f
    exact ⟨_, e, t, rfl⟩
  | str z =>
    obtain ⟨t, e⟩ := He.str_ok X G (x := x) (z := z) f
    exact ⟨_, e, t, rfl⟩
  | non => cases hb
  | bl b => cases hb
/-- all that the law's walk asks -/
theorem law_F {P : Program} {w : World} {fa : Addr} {x : Str} {d : DefR} {n : Nat} (c : He.SaysD (faOf con (ds ++ [d])) ((ds ++ [d]).map toD) K) (X : K.In h) (G : h.Ns mainGlobals mg) (hmg : mg d.sig.name = some (.ref fa)) (hs : d.sig.np = 1) (hb : d.sig.br = []) (hx : d.ps = [x]) (hk0 : d.sig.kw = none)
    (hp : ((ds ++ [d]).all fun d => bindB d && decide d.ps.Nodup) = true) (hc : con.all conB = true) (hk : chkAll con [] (ds ++ [d]) = true)
    (plain : ∀ ns : List Int, ns.length ≤ n → (∀ z ∈ ns, Builtin.Int.intBits z ≤ 1048576) → d.F.mng (ds.foldl addC []) [.list (ns.map .int)] = .ok (.bool true, [])) :
    ∃ (K : PySem.W.Frag) (fd : FuncData) (sp : Sp), K.In h ∧ (∀ (s : Shared) (u : Value), BindsTo s fd ⟨[u], []⟩ [(x, u)]) ∧
      (∀ (H : Hp) (a : Addr) (ns : List Int), ns.length ≤ n → (∀ z ∈ ns, Builtin.Int.intBits z ≤ 1048576) → LL K H a (ns.map V.int) → sp [.ref a] H (fun v _ => v = .bl true) fun _ _ _ => False) ∧
      ∀ base : Heap, K.In base → base.Ns mainGlobals mg → FnG P w K mg base (ds.length + 1) fa fd [x] sp := by
  have o := defs_ok c X G hp
  obtain ⟨fa', fd, name, qual, e1, D, _⟩ := (o d (by simp)).ex
  rw [hk0] at D
  rw [hmg] at e1
  cases e1
  have hd := List.all_eq_true.mp hp d (by simp)
  rw [Bool.and_eq_true, decide_eq_true_eq] at hd
  unfold bindB at hd
  rw [hk0] at hd
  have b := fun s u => FunD.bindsA (ps := [x]) D (fun kV doc pm an cdv ct us hl => bind_plain (by rw [← hx]; exact hd.1) (by rw [← hx]; exact hd.2) hl) s [u] rfl
  refine ⟨K, fd, spG K (fun _ _ _ _ _ => False) d.sig (d.F.mng (ds.foldl addC [])), X, fun s u => b s u, fun H a ns hl hz hS => law_sp hs hb hS (plain ns hl hz), fun base _ _ => ?_⟩
  have r := last_ok (ER := fun _ _ _ _ _ => False) (P := P) (w := w) (base := base) (free_all c X G) (con_all c X G hc) hk (fun e he => o e (List.mem_append_left _ he)) D
  rw [hx] at r
  exact r
end
end Hx

set_option Elab.async false
set_option linter.all false
set_option maxRecDepth 100000
set_option maxHeartbeats 4000000
/-! P0: reasoning about meanings: promises without exceptions, steps, loops, comprehensions. -/
namespace Hx
open PySem
/-- it ends well, and P holds -/
def T {α : Type} (P : α → Prop) (r : Res α) : Prop := ∃ a, r = .ok a ∧ P a
section
variable {α β : Type} {P : α → Prop} {Q : β → Prop}
theorem T_ok {a : α} : T P (.ok a) ↔ P a := ⟨fun ⟨_, e, h⟩ => by cases e; exact h, fun h => ⟨a, rfl, h⟩⟩
theorem T_stuck : T P (Res.stuck : Res α) ↔ False := ⟨fun ⟨_, e, _⟩ => (by cases e), False.elim⟩
theorem T_bnd {r : Res α} {f : α → Res β} : T Q (r.bnd f) ↔ T (fun a => T Q (f a)) r := by
  constructor
  · rintro ⟨b, e, h⟩
    cases r with
    | ok a => exact ⟨a, rfl, b, e, h⟩
    | exc c xs ρ => cases e
    | stuck => cases e
  · rintro ⟨a, rfl, b, e, h⟩
    exact ⟨b, e, h⟩
theorem T_of {o : Option α} : T P (Res.of o) ↔ ∃ a, o = some a ∧ P a := by
  cases o with
  | none =>
    constructor
    · rintro ⟨_, e, _⟩
      cases e
    · rintro ⟨_, e, _⟩
      cases e
  | some a =>
    constructor
    · rintro ⟨_, e, h⟩
      cases e
      exact ⟨_, rfl, h⟩
    · rintro ⟨_, e, h⟩
      cases e
      exact ⟨_, rfl, h⟩
theorem T_some {a : α} : T P (Res.of (some a)) ↔ P a := T_ok
theorem T_none : T P (Res.of (none : Option α)) ↔ False := T_stuck (P := P)
theorem T.mono {P' : α → Prop} {r : Res α} (h : T P r) (k : ∀ a, P a → P' a) : T P' r := by
  obtain ⟨a, e, p⟩ := h
  exact ⟨a, e, k a p⟩
theorem T_calm {r : Res α} : T P r.calm ↔ T P r := by
  cases r with
  | ok a => exact Iff.rfl
  | stuck => exact Iff.rfl
  | exc c xs ρ =>
    constructor
    · rintro ⟨_, e, _⟩
      cases e
    · rintro ⟨_, e, _⟩
      cases e
theorem T_ite {c : Prop} [Decidable c] {r r' : Res α} : T P (if c then r else r') ↔ (c → T P r) ∧ (¬ c → T P r') := by
  by_cases h : c
  · simp [h]
  · simp [h]
end
section
variable (Γ : List Callee) (ρ : Env)
theorem x_v (i : Nat) : evE Γ (.v i) ρ = (match ρ[i]? with
    | some (some d) => .ok (d, ρ)
    | _ => .stuck) := rfl
theorem x_lit (c : Lit) : evE Γ (.lit c) ρ = .ok (c.d, ρ) := rfl
theorem x_con (x : Str) (c : Lit) : evE Γ (.con x c) ρ = .ok (c.d, ρ) := rfl
theorem x_tup (es : IEs) : evE Γ (.tup es) ρ = (evEs Γ es ρ).bnd fun p => .ok (.tuple p.1, p.2) := rfl
theorem x_lst (es : IEs) : evE Γ (.lst es) ρ = (evEs Γ es ρ).bnd fun p => .ok (.list p.1, p.2) := rfl
theorem x_edct : evE Γ .edct ρ = .ok (.dict [], ρ) := rfl
theorem x_neg (a : IE) : evE Γ (.neg a) ρ = (evE Γ a ρ).bnd fun p => (Res.of (negD p.1)).bnd fun i => .ok (.int i, p.2) := rfl
theorem x_bin (o : BOp) (a b : IE) : evE Γ (.bin o a b) ρ = (evE Γ a ρ).bnd fun p => (evE Γ b p.2).bnd fun q => (Res.of (binD o p.1 q.1)).bnd fun d => .ok (d, q.2) := rfl
theorem x_cmp (o : COp) (a b : IE) : evE Γ (.cmp o a b) ρ = (evE Γ a ρ).bnd fun p => (evE Γ b p.2).bnd fun q => (Res.of (cmpD o p.1 q.1)).bnd fun d => .ok (.bool d, q.2) := rfl
theorem x_chain (o o' : COp) (a b c : IE) : evE Γ (.chain o o' a b c) ρ = (evE Γ a ρ).bnd fun p => (evE Γ b p.2).bnd fun q => (Res.of (cmpD o p.1 q.1)).bnd fun k =>
      if k = true then (evE Γ c q.2).bnd fun z => (Res.of (cmpD o' q.1 z.1)).bnd fun d => .ok (.bool d, z.2) else .ok (.bool false, q.2) := rfl
theorem x_isN (pos : Bool) (a : IE) : evE Γ (.isN pos a) ρ = (evE Γ a ρ).bnd fun p => .ok (.bool (isNoneD p.1 == pos), p.2) := rfl
theorem x_not (a : IE) : evE Γ (.not a) ρ = (evE Γ a ρ).bnd fun p => (Res.of (asB p.1)).bnd fun k => .ok (.bool (!k), p.2) := rfl
theorem x_and (a : IE) (es : IEs) : evE Γ (.and a es) ρ = (evE Γ a ρ).bnd fun p => (Res.of (asB p.1)).bnd fun k => if k = true then evAnd Γ es p.2 else .ok (.bool false, p.2) := rfl
theorem x_or (a : IE) (es : IEs) : evE Γ (.or a es) ρ = (evE Γ a ρ).bnd fun p => (Res.of (asB p.1)).bnd fun k => if k = true then .ok (.bool true, p.2) else evOr Γ es p.2 := rfl
theorem x_ite (c : IC) (a b : IE) : evE Γ (.ite c a b) ρ = (evT Γ c ρ).bnd fun p => if p.1 = true then evE Γ a p.2 else evE Γ b p.2 := rfl
theorem x_call (f : Nat) (es : IEs) : evE Γ (.call f es) ρ = (evEs Γ es ρ).bnd fun p => match Γ[f]? with
    | some g => runC g (patch g.br es p.1 p.2) (refArgs g.br es) p.2
    | none => .stuck := rfl
theorem x_callk (f : Nat) (es : IEs) (k : IE) : evE Γ (.callk f es k) ρ = (evEs Γ es ρ).bnd fun p => (evE Γ k p.2).bnd fun q => match Γ[f]? with
    | some g => if g.br = [] then runC g (p.1 ++ [q.1]) [] q.2 else .stuck
    | none => .stuck := rfl
theorem x_bi (f : BI) (es : IEs) : evE Γ (.bi f es) ρ = (evEs Γ es ρ).bnd fun p => (Res.of (biD f p.1)).bnd fun d => .ok (d, p.2) := rfl
theorem x_mk (t : Bool) (it : II) : evE Γ (.mk t it) ρ = (evI Γ it ρ).bnd fun p => .ok (if t = true then .tuple p.1 else .list p.1, p.2) := rfl
theorem x_isa (t : Ty) (a : IE) : evE Γ (.isa t a) ρ = (evE Γ a ρ).bnd fun p => .ok (.bool (isaD t p.1), p.2) := rfl
theorem x_idx (a i : IE) : evE Γ (.idx a i) ρ = (evE Γ a ρ).bnd fun p => (evE Γ i p.2).bnd fun q => (Res.of (idxD p.1 q.1)).bnd fun d => .ok (d, q.2) := rfl
theorem x_sl (a : IE) (lo hi : IO) : evE Γ (.sl a lo hi) ρ = (evE Γ a ρ).bnd fun p => (evO Γ lo p.2).bnd fun l => (evO Γ hi l.2).bnd fun h => (Res.of (sliceD p.1 l.1 h.1)).bnd fun d => .ok (d, h.2) := rfl
theorem x_ixof (a b : IE) : evE Γ (.ixof a b) ρ = (evE Γ a ρ).bnd fun p => (Res.of (itemsOf p.1)).bnd fun xs => (evE Γ b p.2).bnd fun q => (Res.of (ixofD xs q.1)).bnd fun i => .ok (.int i, q.2) := rfl
theorem x_dzip (a b : IE) : evE Γ (.dzip a b) ρ = (evE Γ a ρ).bnd fun p => (evE Γ b p.2).bnd fun q => (Res.of (dzipD p.1 q.1)).bnd fun d => .ok (d, q.2) := rfl
theorem x_dget (a k : IE) : evE Γ (.dget a k) ρ = (evE Γ a ρ).bnd fun p => (evE Γ k p.2).bnd fun q => (Res.of (dgetD p.1 q.1)).bnd fun d => .ok (d, q.2) := rfl
theorem x_rev (a : IE) : evE Γ (.rev a) ρ = (evE Γ a ρ).bnd fun p => (Res.of (revD p.1)).bnd fun d => .ok (d, p.2) := rfl
def cF (t : Tgt) (cs : ICs) (e : IE) : PyData → Env → Res (List PyData × Env) := fun x ρ' => (Res.of (bindT t x (wipe ρ' t.own))).bnd fun ρ2 => (evCs Γ cs ρ2).bnd fun p => if p.1 = true then (evE Γ e p.2).bnd fun q => .ok ([q.1], q.2) else .ok ([], p.2)
theorem x_comp (t : Tgt) (it : II) (cs : ICs) (e : IE) : evE Γ (.comp t it cs e) ρ = (evI Γ it ρ).bnd fun p => (turns (cF Γ t cs e) p.1 p.2).calm.bnd fun q => if q.1.length ≤ lim then .ok (.list q.1, back p.2 q.2 t.own) else .stuck := rfl
theorem x_comp2 (t : Tgt) (it : II) (cs : ICs) (t2 : Tgt) (it2 : II) (cs2 : ICs) (e : IE) : evE Γ (.comp2 t it cs t2 it2 cs2 e) ρ = (evI Γ it ρ).bnd fun p => (turns (c2F Γ t cs t2 it2 cs2 e) p.1 p.2).calm.bnd fun q => if q.1.length ≤ lim then .ok (.list q.1, back p.2 q.2 (t.own ++ t2.own)) else .stuck := rfl
theorem x_pop (x : Nat) (es : IEs) : evE Γ (.pop x es) ρ = (evEs Γ es ρ).bnd fun p => (Res.of (popD (p.2[x]?.join) p.1)).bnd fun q => .ok (q.1, p.2.set x (some (.list q.2))) := rfl
theorem x_and0 : evAnd Γ .nil ρ = .ok (.bool true, ρ) := rfl
theorem x_and1 (a : IE) (es : IEs) : evAnd Γ (.cons a es) ρ = (evE Γ a ρ).bnd fun p => (Res.of (asB p.1)).bnd fun k => if k = true then evAnd Γ es p.2 else .ok (.bool false, p.2) := rfl
theorem x_or0 : evOr Γ .nil ρ = .ok (.bool false, ρ) := rfl
theorem x_or1 (a : IE) (es : IEs) : evOr Γ (.cons a es) ρ = (evE Γ a ρ).bnd fun p => (Res.of (asB p.1)).bnd fun k => if k = true then .ok (.bool true, p.2) else evOr Γ es p.2 := rfl
theorem x_tval (e : IE) : evT Γ (.val e) ρ = (evE Γ e ρ).bnd fun p => (Res.of (truD p.1)).bnd fun k => .ok (k, p.2) := rfl
theorem x_tnot (a : IC) : evT Γ (.not a) ρ = (evT Γ a ρ).bnd fun p => .ok (!p.1, p.2) := rfl
theorem x_tand (a : IC) (cs : ICs) : evT Γ (.and a cs) ρ = (evT Γ a ρ).bnd fun p => if p.1 = true then evCs Γ cs p.2 else .ok (false, p.2) := rfl
theorem x_tor (a : IC) (cs : ICs) : evT Γ (.or a cs) ρ = (evT Γ a ρ).bnd fun p => if p.1 = true then .ok (true, p.2) else evDs Γ cs p.2 := rfl
theorem x_cs0 : evCs Γ .nil ρ = .ok (true, ρ) := rfl
theorem x_cs1 (a : IC) (cs : ICs) : evCs Γ (.cons a cs) ρ = (evT Γ a ρ).bnd fun p => if p.1 = true then evCs Γ cs p.2 else .ok (false, p.2) := rfl
theorem x_ds0 : evDs Γ .nil ρ = .ok (false, ρ) := rfl
theorem x_ds1 (a : IC) (cs : ICs) : evDs Γ (.cons a cs) ρ = (evT Γ a ρ).bnd fun p => if p.1 = true then .ok (true, p.2) else evDs Γ cs p.2 := rfl
theorem x_es0 : evEs Γ .nil ρ = .ok ([], ρ) := rfl
theorem x_es1 (a : IE) (es : IEs) : evEs Γ (.cons a es) ρ = (evE Γ a ρ).bnd fun p => (evEs Γ es p.2).bnd fun q => .ok (p.1 :: q.1, q.2) := rfl
theorem x_o0 : evO Γ .non ρ = .ok (none, ρ) := rfl
theorem x_o1 (e : IE) : evO Γ (.som e) ρ = (evE Γ e ρ).bnd fun p => (Res.of (intD p.1)).bnd fun i => .ok (some i, p.2) := rfl
theorem x_seq (a : IE) : evI Γ (.seq a) ρ = (evE Γ a ρ).bnd fun p => (Res.of (itemsOf p.1)).bnd fun xs => .ok (xs, p.2) := rfl
theorem x_rng (es : IEs) : evI Γ (.rng es) ρ = (evEs Γ es ρ).bnd fun p => (Res.of (rngD p.1)).bnd fun xs => .ok (xs, p.2) := rfl
theorem x_zip (es : IEs) : evI Γ (.zip es) ρ = (evEs Γ es ρ).bnd fun p => (Res.of (zipD p.1)).bnd fun xs => .ok (xs, p.2) := rfl
theorem x_enm (a : IE) : evI Γ (.enm a) ρ = (evE Γ a ρ).bnd fun p => (Res.of (itemsL p.1)).bnd fun xs => .ok (enmL 0 xs, p.2) := rfl
theorem x_asg (i : Nat) (e : IE) : exec Γ (.asg i e) ρ = (evE Γ e ρ).bnd fun p => .ok (.nx (p.2.set i (some p.1))) := rfl
theorem x_unp (is : List Nat) (e : IE) : exec Γ (.unp is e) ρ = (evE Γ e ρ).bnd fun p => (Res.of (bindT (.tup is) p.1 p.2)).bnd fun ρ2 => .ok (.nx ρ2) := rfl
theorem x_setix (x : Nat) (k e : IE) : exec Γ (.setix x k e) ρ = (evE Γ e ρ).bnd fun p => (evE Γ k p.2).bnd fun q => match q.2[x]?, q.1 with
    | some (some (.list xs)), .int i => (Res.of (L2.ixN xs.length i)).bnd fun j => .ok (.nx (q.2.set x (some (.list (xs.set j p.1)))))
    | _, _ => .stuck := rfl
theorem x_aug (o : BOp) (i : Nat) (e : IE) : exec Γ (.aug o i e) ρ = (match ρ[i]? with
    | some (some x) => (evE Γ e ρ).bnd fun p => (Res.of (binD o x p.1)).bnd fun d => (match d with
      | .int _ => .ok (.nx (p.2.set i (some d)))
      | _ => .stuck)
    | _ => .stuck) := rfl
theorem x_ex (e : IE) : exec Γ (.ex e) ρ = (evE Γ e ρ).bnd fun p => .ok (.nx p.2) := rfl
theorem x_app (x : Nat) (e : IE) : exec Γ (.app x e) ρ = (evE Γ e ρ).bnd fun p => match p.2[x]? with
    | some (some (.list xs)) => if xs.length < lim then .ok (.nx (p.2.set x (some (.list (xs ++ [p.1]))))) else .stuck
    | _ => .stuck := rfl
theorem x_ext (x : Nat) (e : IE) : exec Γ (.ext x e) ρ = (evE Γ e ρ).bnd fun p => match p.2[x]?, p.1 with
    | some (some (.list xs)), .list ys => if xs.length + ys.length ≤ lim then .ok (.nx (p.2.set x (some (.list (xs ++ ys))))) else .stuck
    | _, _ => .stuck := rfl
theorem x_ret (e : IE) : exec Γ (.ret e) ρ = (evE Γ e ρ).bnd fun p => .ok (.rt p.1 p.2) := rfl
theorem x_if (c : IC) (a b : ISs) : exec Γ (.ite c a b) ρ = (evT Γ c ρ).bnd fun p => if p.1 = true then execs Γ a p.2 else execs Γ b p.2 := rfl
theorem x_for (g : List Nat) (t : Tgt) (it : II) (b : ISs) : exec Γ (.for_ g t it b) ρ = (evI Γ it ρ).bnd fun p => loopF (forF Γ t b) p.1 p.2 := rfl
theorem x_whl (g : List Nat) (c : IC) (b : ISs) : exec Γ (.whl g c b) ρ = whlS (evT Γ c) (execs Γ b) ρ := rfl
theorem x_pas : exec Γ .pas ρ = .ok (.nx ρ) := rfl
theorem x_s0 : execs Γ .nil ρ = .ok (.nx ρ) := rfl
/-- what follows -/
def aftF (k : Env → Res Flow) : Flow → Res Flow
  | .nx ρ => k ρ
  | .rt d ρ => .ok (.rt d ρ)
theorem aft_nx (k : Env → Res Flow) (ρ : Env) : aftF k (.nx ρ) = k ρ := rfl
theorem aft_rt (k : Env → Res Flow) (d : PyData) (ρ : Env) : aftF k (.rt d ρ) = .ok (.rt d ρ) := rfl
theorem x_s1 (s : IS) (r : ISs) : execs Γ (.cons s r) ρ = (exec Γ s ρ).bnd (aftF (execs Γ r)) := by
  show (exec Γ s ρ).bnd _ = _
  congr 1
end
/-! ### promises of the pieces -/
section
variable (Γ : List Callee)
def E (e : IE) (ρ : Env) (P : PyData → Env → Prop) : Prop := T (fun p => P p.1 p.2) (evE Γ e ρ)
def Es (es : IEs) (ρ : Env) (P : List PyData → Env → Prop) : Prop := T (fun p => P p.1 p.2) (evEs Γ es ρ)
def EAnd (es : IEs) (ρ : Env) (P : PyData → Env → Prop) : Prop := T (fun p => P p.1 p.2) (evAnd Γ es ρ)
def EOr (es : IEs) (ρ : Env) (P : PyData → Env → Prop) : Prop := T (fun p => P p.1 p.2) (evOr Γ es ρ)
def Et (c : IC) (ρ : Env) (P : Bool → Env → Prop) : Prop := T (fun p => P p.1 p.2) (evT Γ c ρ)
def ECs (c : ICs) (ρ : Env) (P : Bool → Env → Prop) : Prop := T (fun p => P p.1 p.2) (evCs Γ c ρ)
def EDs (c : ICs) (ρ : Env) (P : Bool → Env → Prop) : Prop := T (fun p => P p.1 p.2) (evDs Γ c ρ)
def EO (o : IO) (ρ : Env) (P : Option Int → Env → Prop) : Prop := T (fun p => P p.1 p.2) (evO Γ o ρ)
def EI (it : II) (ρ : Env) (P : List PyData → Env → Prop) : Prop := T (fun p => P p.1 p.2) (evI Γ it ρ)
def flowP (N : Env → Prop) (R : PyData → Env → Prop) : Flow → Prop
  | .nx ρ => N ρ
  | .rt d ρ => R d ρ
def St (s : IS) (ρ : Env) (N : Env → Prop) (R : PyData → Env → Prop) : Prop := T (flowP N R) (exec Γ s ρ)
def Ss (s : ISs) (ρ : Env) (N : Env → Prop) (R : PyData → Env → Prop) : Prop := T (flowP N R) (execs Γ s ρ)
def ifB (k : Bool) (A B : Prop) : Prop := (k = true → A) ∧ (k = false → B)
def opX (o : BOp) (x y : PyData) (P : PyData → Prop) : Prop := ∃ d, binD o x y = some d ∧ P d
def cmX (o : COp) (x y : PyData) (P : Bool → Prop) : Prop := ∃ d, cmpD o x y = some d ∧ P d
def biX (f : BI) (ds : List PyData) (P : PyData → Prop) : Prop := ∃ d, biD f ds = some d ∧ P d
def ixX (x i : PyData) (P : PyData → Prop) : Prop := ∃ d, idxD x i = some d ∧ P d
def slX (x : PyData) (l h : Option Int) (P : PyData → Prop) : Prop := ∃ d, sliceD x l h = some d ∧ P d
def bX (x : PyData) (P : Bool → Prop) : Prop := ∃ k, asB x = some k ∧ P k
def tX (x : PyData) (P : Bool → Prop) : Prop := ∃ k, truD x = some k ∧ P k
def callX (f : Nat) (es : IEs) (ds : List PyData) (ρ : Env) (P : PyData → Env → Prop) : Prop := ∃ g, Γ[f]? = some g ∧ T (fun p => P p.1 (setOut (refArgs g.br es) p.2 ρ)) (g.m (patch g.br es ds ρ))
def callKX (f : Nat) (ds : List PyData) (ρ : Env) (P : PyData → Env → Prop) : Prop := ∃ g, Γ[f]? = some g ∧ g.br = [] ∧ T (fun p => P p.1 ρ) (g.m ds)
def compX (t : Tgt) (cs : ICs) (e : IE) (xs : List PyData) (ρ : Env) (P : PyData → Env → Prop) : Prop := T (fun q => q.1.length ≤ lim ∧ P (.list q.1) (back ρ q.2 t.own)) (turns (cF Γ t cs e) xs ρ)
def comp2X (t : Tgt) (cs : ICs) (t2 : Tgt) (it2 : II) (cs2 : ICs) (e : IE) (xs : List PyData) (ρ : Env) (P : PyData → Env → Prop) : Prop := T (fun q => q.1.length ≤ lim ∧ P (.list q.1) (back ρ q.2 (t.own ++ t2.own))) (turns (c2F Γ t cs t2 it2 cs2 e) xs ρ)
def dcomp2X (t t2 : Tgt) (it2 : II) (k v : IE) (xs : List PyData) (ρ : Env) (P : PyData → Env → Prop) : Prop := T (fun q => ∃ kvs, pairsOf q.1 = some kvs ∧ kvs.length ≤ lim ∧ P (.dict (putsD [] kvs)) (back ρ q.2 (t.own ++ t2.own))) (turns (d2F Γ t t2 it2 k v) xs ρ)
def loopX (t : Tgt) (b : ISs) (xs : List PyData) (ρ : Env) (N : Env → Prop) (R : PyData → Env → Prop) : Prop := T (flowP N R) (loopF (forF Γ t b) xs ρ)
variable {Γ} {ρ : Env} {P : PyData → Env → Prop} {N : Env → Prop} {R : PyData → Env → Prop}
theorem E_v {i : Nat} : E Γ (.v i) ρ P ↔ ∃ d, ρ[i]? = some (some d) ∧ P d ρ := by
  unfold E
  rw [x_v]
  split
  · rename_i d h
    rw [T_ok, h]
    constructor
    · exact fun h => ⟨d, rfl, h⟩
    · rintro ⟨_, e, h⟩
      cases e
      exact h
  · rename_i h
    rw [T_stuck]
    exact ⟨False.elim, fun ⟨d, e, _⟩ => h d e⟩
theorem E_lit {c : Lit} : E Γ (.lit c) ρ P ↔ P c.d ρ := T_ok
theorem E_con {x : Str} {c : Lit} : E Γ (.con x c) ρ P ↔ P c.d ρ := T_ok
theorem E_edct : E Γ .edct ρ P ↔ P (.dict []) ρ := T_ok
theorem E_tup {es : IEs} : E Γ (.tup es) ρ P ↔ Es Γ es ρ fun ds ρ1 => P (.tuple ds) ρ1 := by
  unfold E Es; rw [x_tup, T_bnd]; simp only [T_ok]
theorem E_lst {es : IEs} : E Γ (.lst es) ρ P ↔ Es Γ es ρ fun ds ρ1 => P (.list ds) ρ1 := by
  unfold E Es; rw [x_lst, T_bnd]; simp only [T_ok]
theorem E_neg {a : IE} : E Γ (.neg a) ρ P ↔ E Γ a ρ fun x ρ1 => ∃ i, negD x = some i ∧ P (.int i) ρ1 := by
  unfold E; rw [x_neg, T_bnd]; simp only [T_bnd, T_of, T_ok]
theorem E_bin {o : BOp} {a b : IE} : E Γ (.bin o a b) ρ P ↔ E Γ a ρ fun x ρ1 => E Γ b ρ1 fun y ρ2 => opX o x y fun d => P d ρ2 := by
  unfold E opX; rw [x_bin, T_bnd]; simp only [T_bnd, T_of, T_ok]
theorem E_cmp {o : COp} {a b : IE} : E Γ (.cmp o a b) ρ P ↔ E Γ a ρ fun x ρ1 => E Γ b ρ1 fun y ρ2 => cmX o x y fun d => P (.bool d) ρ2 := by
  unfold E cmX; rw [x_cmp, T_bnd]; simp only [T_bnd, T_of, T_ok]
theorem T_ifB {α : Type} {Q : α → Prop} {k : Bool} {r r' : Res α} : T Q (if k = true then r else r') ↔ ifB k (T Q r) (T Q r') := by
  unfold ifB; cases k <;> simp
theorem E_chain {o o' : COp} {a b c : IE} : E Γ (.chain o o' a b c) ρ P ↔ E Γ a ρ fun x ρ1 => E Γ b ρ1 fun y ρ2 => cmX o x y fun k => ifB k (E Γ c ρ2 fun z ρ3 => cmX o' y z fun d => P (.bool d) ρ3) (P (.bool false) ρ2) := by
  unfold E cmX; rw [x_chain, T_bnd]; simp only [T_bnd, T_of, T_ifB, T_ok]
theorem E_isN {pos : Bool} {a : IE} : E Γ (.isN pos a) ρ P ↔ E Γ a ρ fun x ρ1 => P (.bool (isNoneD x == pos)) ρ1 := by
  unfold E; rw [x_isN, T_bnd]; simp only [T_ok]
theorem E_not {a : IE} : E Γ (.not a) ρ P ↔ E Γ a ρ fun x ρ1 => bX x fun k => P (.bool (!k)) ρ1 := by
  unfold E bX; rw [x_not, T_bnd]; simp only [T_bnd, T_of, T_ok]
theorem E_and {a : IE} {es : IEs} : E Γ (.and a es) ρ P ↔ E Γ a ρ fun x ρ1 => bX x fun k => ifB k (EAnd Γ es ρ1 P) (P (.bool false) ρ1) := by
  unfold E EAnd bX; rw [x_and, T_bnd]; simp only [T_bnd, T_of, T_ifB, T_ok]
theorem E_or {a : IE} {es : IEs} : E Γ (.or a es) ρ P ↔ E Γ a ρ fun x ρ1 => bX x fun k => ifB k (P (.bool true) ρ1) (EOr Γ es ρ1 P) := by
  unfold E EOr bX; rw [x_or, T_bnd]; simp only [T_bnd, T_of, T_ifB, T_ok]
theorem EAnd_nil : EAnd Γ .nil ρ P ↔ P (.bool true) ρ := T_ok
theorem EOr_nil : EOr Γ .nil ρ P ↔ P (.bool false) ρ := T_ok
theorem EAnd_cons {a : IE} {es : IEs} : EAnd Γ (.cons a es) ρ P ↔ E Γ a ρ fun x ρ1 => bX x fun k => ifB k (EAnd Γ es ρ1 P) (P (.bool false) ρ1) := by
  unfold E EAnd bX; rw [x_and1, T_bnd]; simp only [T_bnd, T_of, T_ifB, T_ok]
theorem EOr_cons {a : IE} {es : IEs} : EOr Γ (.cons a es) ρ P ↔ E Γ a ρ fun x ρ1 => bX x fun k => ifB k (P (.bool true) ρ1) (EOr Γ es ρ1 P) := by
  unfold E EOr bX; rw [x_or1, T_bnd]; simp only [T_bnd, T_of, T_ifB, T_ok]
theorem E_callk {f : Nat} {es : IEs} {k : IE} : E Γ (.callk f es k) ρ P ↔ Es Γ es ρ fun ds ρ1 => E Γ k ρ1 fun d ρ2 => callKX Γ f (ds ++ [d]) ρ2 P := by
  unfold E Es callKX; rw [x_callk, T_bnd]
  have key : ∀ (ds : List PyData) (ρ1 : Env), T (fun p => P p.1 p.2) (match Γ[f]? with
    | some g => if g.br = [] then runC g ds [] ρ1 else .stuck
    | none => .stuck) ↔ ∃ g, Γ[f]? = some g ∧ g.br = [] ∧ T (fun p => P p.1 ρ1) (g.m ds) := by
    intro ds ρ1
    cases h : Γ[f]? with
    | none => simp [T_stuck]
    | some g =>
      simp only [Option.some.injEq, exists_eq_left']
      by_cases hb : g.br = []
      · rw [if_pos hb]
        unfold runC
        simp only [hb, true_and, if_true]
        cases g.m ds with
        | ok p =>
          show T (fun p => P p.1 p.2) (Res.ok (p.1, setOut [] p.2 ρ1)) ↔ T (fun p => P p.1 ρ1) (Res.ok p)
          rw [T_ok, T_ok]
          exact Iff.rfl
        | exc c xs ρ' =>
          constructor
          · rintro ⟨_, e, _⟩
            cases e
          · rintro ⟨_, e, _⟩
            cases e
        | stuck => simp only [T_stuck]
      · rw [if_neg hb]
        simp [hb, T_stuck]
  simp only [T_bnd, key]
theorem E_ite {c : IC} {a b : IE} : E Γ (.ite c a b) ρ P ↔ Et Γ c ρ fun k ρ1 => ifB k (E Γ a ρ1 P) (E Γ b ρ1 P) := by
  unfold E Et; rw [x_ite, T_bnd]; simp only [T_ifB]
theorem E_call {f : Nat} {es : IEs} : E Γ (.call f es) ρ P ↔ Es Γ es ρ fun ds ρ1 => callX Γ f es ds ρ1 P := by
  unfold E Es callX; rw [x_call, T_bnd]
  have key : ∀ (ds : List PyData) (ρ1 : Env), T (fun p => P p.1 p.2) (match Γ[f]? with
    | some g => runC g (patch g.br es ds ρ1) (refArgs g.br es) ρ1
    | none => .stuck) ↔ ∃ g, Γ[f]? = some g ∧ T (fun p => P p.1 (setOut (refArgs g.br es) p.2 ρ1)) (g.m (patch g.br es ds ρ1)) := by
    intro ds ρ1
    cases h : Γ[f]? with
    | none => simp [T_stuck]
    | some g =>
      simp only [Option.some.injEq, exists_eq_left']
      unfold runC
      cases g.m (patch g.br es ds ρ1) with
      | ok p => simp only [T_ok]
      | exc c xs ρ' =>
        constructor
        · dsimp only
          split <;> rintro ⟨_, e, _⟩ <;> cases e
        · rintro ⟨_, e, _⟩
          cases e
      | stuck => simp only [T_stuck]
  constructor
  · exact fun h => h.mono fun p hp => (key p.1 p.2).mp hp
  · exact fun h => h.mono fun p hp => (key p.1 p.2).mpr hp
theorem E_bi {f : BI} {es : IEs} : E Γ (.bi f es) ρ P ↔ Es Γ es ρ fun ds ρ1 => biX f ds fun d => P d ρ1 := by
  unfold E Es biX; rw [x_bi, T_bnd]; simp only [T_bnd, T_of, T_ok]
theorem E_mkt {it : II} : E Γ (.mk true it) ρ P ↔ EI Γ it ρ fun xs ρ1 => P (.tuple xs) ρ1 := by
  unfold E EI; rw [x_mk, T_bnd]; simp only [T_ok, if_true]
theorem E_mkl {it : II} : E Γ (.mk false it) ρ P ↔ EI Γ it ρ fun xs ρ1 => P (.list xs) ρ1 := by
  unfold E EI; rw [x_mk, T_bnd]; simp only [T_ok, Bool.false_eq_true, if_false]
theorem E_isa {t : Ty} {a : IE} : E Γ (.isa t a) ρ P ↔ E Γ a ρ fun x ρ1 => P (.bool (isaD t x)) ρ1 := by
  unfold E; rw [x_isa, T_bnd]; simp only [T_ok]
theorem E_idx {a i : IE} : E Γ (.idx a i) ρ P ↔ E Γ a ρ fun x ρ1 => E Γ i ρ1 fun y ρ2 => ixX x y fun d => P d ρ2 := by
  unfold E ixX; rw [x_idx, T_bnd]; simp only [T_bnd, T_of, T_ok]
theorem E_sl {a : IE} {lo hi : IO} : E Γ (.sl a lo hi) ρ P ↔ E Γ a ρ fun x ρ1 => EO Γ lo ρ1 fun l ρ2 => EO Γ hi ρ2 fun h ρ3 => slX x l h fun d => P d ρ3 := by
  unfold E EO slX; rw [x_sl, T_bnd]; simp only [T_bnd, T_of, T_ok]
theorem E_rev {a : IE} : E Γ (.rev a) ρ P ↔ E Γ a ρ fun x ρ1 => ∃ d, revD x = some d ∧ P d ρ1 := by
  unfold E; rw [x_rev, T_bnd]; simp only [T_bnd, T_of, T_ok]
theorem E_ixof {a b : IE} : E Γ (.ixof a b) ρ P ↔ E Γ a ρ fun x ρ1 => ∃ xs, itemsOf x = some xs ∧ E Γ b ρ1 fun y ρ2 => ∃ i, ixofD xs y = some i ∧ P (.int i) ρ2 := by
  unfold E; rw [x_ixof, T_bnd]; simp only [T_bnd, T_of, T_ok]
theorem E_dzip {a b : IE} : E Γ (.dzip a b) ρ P ↔ E Γ a ρ fun x ρ1 => E Γ b ρ1 fun y ρ2 => ∃ d, dzipD x y = some d ∧ P d ρ2 := by
  unfold E; rw [x_dzip, T_bnd]; simp only [T_bnd, T_of, T_ok]
theorem E_dget {a k : IE} : E Γ (.dget a k) ρ P ↔ E Γ a ρ fun x ρ1 => E Γ k ρ1 fun y ρ2 => ∃ d, dgetD x y = some d ∧ P d ρ2 := by
  unfold E; rw [x_dget, T_bnd]; simp only [T_bnd, T_of, T_ok]
theorem T_iflim {α : Type} {Q : α → Prop} {n : Nat} {a : α} : T Q (if n ≤ lim then .ok a else .stuck) ↔ n ≤ lim ∧ Q a := by
  by_cases h : n ≤ lim <;> simp [h, T_ok, T_stuck]
theorem E_comp {t : Tgt} {it : II} {cs : ICs} {e : IE} : E Γ (.comp t it cs e) ρ P ↔ EI Γ it ρ fun xs ρ1 => compX Γ t cs e xs ρ1 P := by
  unfold E EI compX; rw [x_comp, T_bnd]; simp only [T_bnd, T_calm, T_iflim]
theorem E_comp2 {t t2 : Tgt} {it it2 : II} {cs cs2 : ICs} {e : IE} : E Γ (.comp2 t it cs t2 it2 cs2 e) ρ P ↔ EI Γ it ρ fun xs ρ1 => comp2X Γ t cs t2 it2 cs2 e xs ρ1 P := by
  unfold E EI comp2X; rw [x_comp2, T_bnd]; simp only [T_bnd, T_calm, T_iflim]
theorem x_dcomp2 {t t2 : Tgt} {it it2 : II} {k v : IE} : evE Γ (.dcomp2 t it t2 it2 k v) ρ = (evI Γ it ρ).bnd fun p => (turns (d2F Γ t t2 it2 k v) p.1 p.2).calm.bnd fun q => (Res.of (pairsOf q.1)).bnd fun kvs => if kvs.length ≤ lim then .ok (.dict (putsD [] kvs), back p.2 q.2 (t.own ++ t2.own)) else .stuck := rfl
theorem E_dcomp2 {t t2 : Tgt} {it it2 : II} {k v : IE} : E Γ (.dcomp2 t it t2 it2 k v) ρ P ↔ EI Γ it ρ fun xs ρ1 => dcomp2X Γ t t2 it2 k v xs ρ1 P := by
  unfold E EI dcomp2X; rw [x_dcomp2, T_bnd]; simp only [T_bnd, T_calm, T_of, T_iflim]
theorem E_pop {x : Nat} {es : IEs} : E Γ (.pop x es) ρ P ↔ Es Γ es ρ fun ds ρ1 => ∃ q, popD (ρ1[x]?.join) ds = some q ∧ P q.1 (ρ1.set x (some (.list q.2))) := by
  unfold E Es; rw [x_pop, T_bnd]; simp only [T_bnd, T_of, T_ok]
theorem Es_nil {Q : List PyData → Env → Prop} : Es Γ .nil ρ Q ↔ Q [] ρ := T_ok
theorem Es_cons {a : IE} {es : IEs} {Q : List PyData → Env → Prop} : Es Γ (.cons a es) ρ Q ↔ E Γ a ρ fun x ρ1 => Es Γ es ρ1 fun xs ρ2 => Q (x :: xs) ρ2 := by
  unfold E Es; rw [x_es1, T_bnd]; simp only [T_bnd, T_ok]
theorem Et_val {e : IE} {Q : Bool → Env → Prop} : Et Γ (.val e) ρ Q ↔ E Γ e ρ fun x ρ1 => tX x fun k => Q k ρ1 := by
  unfold E Et tX; rw [x_tval, T_bnd]; simp only [T_bnd, T_of, T_ok]
theorem Et_not {c : IC} {Q : Bool → Env → Prop} : Et Γ (.not c) ρ Q ↔ Et Γ c ρ fun k ρ1 => Q (!k) ρ1 := by
  unfold Et; rw [x_tnot, T_bnd]; simp only [T_ok]
theorem Et_and {c : IC} {cs : ICs} {Q : Bool → Env → Prop} : Et Γ (.and c cs) ρ Q ↔ Et Γ c ρ fun k ρ1 => ifB k (ECs Γ cs ρ1 Q) (Q false ρ1) := by
  unfold Et ECs; rw [x_tand, T_bnd]; simp only [T_ifB, T_ok]
theorem Et_or {c : IC} {cs : ICs} {Q : Bool → Env → Prop} : Et Γ (.or c cs) ρ Q ↔ Et Γ c ρ fun k ρ1 => ifB k (Q true ρ1) (EDs Γ cs ρ1 Q) := by
  unfold Et EDs; rw [x_tor, T_bnd]; simp only [T_ifB, T_ok]
theorem ECs_nil {Q : Bool → Env → Prop} : ECs Γ .nil ρ Q ↔ Q true ρ := T_ok
theorem EDs_nil {Q : Bool → Env → Prop} : EDs Γ .nil ρ Q ↔ Q false ρ := T_ok
theorem ECs_cons {c : IC} {cs : ICs} {Q : Bool → Env → Prop} : ECs Γ (.cons c cs) ρ Q ↔ Et Γ c ρ fun k ρ1 => ifB k (ECs Γ cs ρ1 Q) (Q false ρ1) := by
  unfold Et ECs; rw [x_cs1, T_bnd]; simp only [T_ifB, T_ok]
theorem EDs_cons {c : IC} {cs : ICs} {Q : Bool → Env → Prop} : EDs Γ (.cons c cs) ρ Q ↔ Et Γ c ρ fun k ρ1 => ifB k (Q true ρ1) (EDs Γ cs ρ1 Q) := by
  unfold Et EDs; rw [x_ds1, T_bnd]; simp only [T_ifB, T_ok]
theorem EO_non {Q : Option Int → Env → Prop} : EO Γ .non ρ Q ↔ Q none ρ := T_ok
theorem EO_som {e : IE} {Q : Option Int → Env → Prop} : EO Γ (.som e) ρ Q ↔ E Γ e ρ fun x ρ1 => ∃ i, intD x = some i ∧ Q (some i) ρ1 := by
  unfold E EO; rw [x_o1, T_bnd]; simp only [T_bnd, T_of, T_ok]
theorem EI_seq {a : IE} {Q : List PyData → Env → Prop} : EI Γ (.seq a) ρ Q ↔ E Γ a ρ fun x ρ1 => ∃ xs, itemsOf x = some xs ∧ Q xs ρ1 := by
  unfold E EI; rw [x_seq, T_bnd]; simp only [T_bnd, T_of, T_ok]
theorem EI_rng {es : IEs} {Q : List PyData → Env → Prop} : EI Γ (.rng es) ρ Q ↔ Es Γ es ρ fun ds ρ1 => ∃ xs, rngD ds = some xs ∧ Q xs ρ1 := by
  unfold Es EI; rw [x_rng, T_bnd]; simp only [T_bnd, T_of, T_ok]
theorem EI_zip {es : IEs} {Q : List PyData → Env → Prop} : EI Γ (.zip es) ρ Q ↔ Es Γ es ρ fun ds ρ1 => ∃ xs, zipD ds = some xs ∧ Q xs ρ1 := by
  unfold Es EI; rw [x_zip, T_bnd]; simp only [T_bnd, T_of, T_ok]
theorem EI_enm {a : IE} {Q : List PyData → Env → Prop} : EI Γ (.enm a) ρ Q ↔ E Γ a ρ fun x ρ1 => ∃ xs, itemsL x = some xs ∧ Q (enmL 0 xs) ρ1 := by
  unfold E EI; rw [x_enm, T_bnd]; simp only [T_bnd, T_of, T_ok]
/-! statements -/
theorem St_asg {i : Nat} {e : IE} : St Γ (.asg i e) ρ N R ↔ E Γ e ρ fun d ρ1 => N (ρ1.set i (some d)) := by
  unfold St E; rw [x_asg, T_bnd]; simp only [T_ok, flowP]
theorem St_unp {is : List Nat} {e : IE} : St Γ (.unp is e) ρ N R ↔ E Γ e ρ fun d ρ1 => ∃ ρ2, bindT (.tup is) d ρ1 = some ρ2 ∧ N ρ2 := by
  unfold St E; rw [x_unp, T_bnd]; simp only [T_bnd, T_of, T_ok, flowP]
theorem St_setix {x : Nat} {k e : IE} : St Γ (.setix x k e) ρ N R ↔ E Γ e ρ fun d ρ1 => E Γ k ρ1 fun i ρ2 => ∃ xs n j, ρ2[x]? = some (some (.list xs)) ∧ i = .int n ∧ L2.ixN xs.length n = some j ∧ N (ρ2.set x (some (.list (xs.set j d)))) := by
  unfold St E; rw [x_setix, T_bnd]
  have key : ∀ (d : PyData) (i : PyData) (ρ2 : Env), T (flowP N R) (match ρ2[x]?, i with
    | some (some (.list xs)), .int i => (Res.of (L2.ixN xs.length i)).bnd fun j => .ok (.nx (ρ2.set x (some (.list (xs.set j d)))))
    | _, _ => .stuck) ↔ ∃ xs n j, ρ2[x]? = some (some (.list xs)) ∧ i = .int n ∧ L2.ixN xs.length n = some j ∧ N (ρ2.set x (some (.list (xs.set j d)))) := by
    intro d i ρ2
    split
    · rename_i xs n h
      simp only [T_bnd, T_of, T_ok, flowP, h]
      constructor
      · rintro ⟨j, e1, e2⟩
        exact ⟨xs, n, j, rfl, rfl, e1, e2⟩
      · rintro ⟨xs', n', j, e1, e2, e3, e4⟩
        cases e1
        cases e2
        exact ⟨j, e3, e4⟩
    · rename_i h
      rw [T_stuck]
      refine ⟨False.elim, ?_⟩
      rintro ⟨xs, n, j, e1, e2, _⟩
      exact h xs n e1 e2
  simp only [T_bnd, key]
theorem St_aug {o : BOp} {i : Nat} {e : IE} : St Γ (.aug o i e) ρ N R ↔ ∃ x, ρ[i]? = some (some x) ∧ E Γ e ρ fun y ρ1 => opX o x y fun d => ∃ n, d = .int n ∧ N (ρ1.set i (some (.int n))) := by
  unfold St E opX; rw [x_aug]
  have key : ∀ (d : PyData) (ρ1 : Env), T (flowP N R) (match d with
      | .int _ => .ok (.nx (ρ1.set i (some d)))
      | _ => .stuck) ↔ ∃ n, d = .int n ∧ N (ρ1.set i (some (.int n))) := by
    intro d ρ1
    split
    · rename_i n
      rw [T_ok]
      constructor
      · exact fun h => ⟨n, rfl, h⟩
      · rintro ⟨n', e, h⟩
        cases e
        exact h
    · rename_i h
      rw [T_stuck]
      refine ⟨False.elim, ?_⟩
      rintro ⟨n, e, _⟩
      exact h n e
  split
  · rename_i x h
    simp only [T_bnd, T_of, key, h, Option.some.injEq, exists_eq_left']
  · rename_i h
    rw [T_stuck]
    refine ⟨False.elim, ?_⟩
    rintro ⟨x, e, _⟩
    exact h x e
theorem St_ex {e : IE} : St Γ (.ex e) ρ N R ↔ E Γ e ρ fun _ ρ1 => N ρ1 := by
  unfold St E; rw [x_ex, T_bnd]; simp only [T_ok, flowP]
theorem St_app {x : Nat} {e : IE} : St Γ (.app x e) ρ N R ↔ E Γ e ρ fun d ρ1 => ∃ xs, ρ1[x]? = some (some (.list xs)) ∧ xs.length < lim ∧ N (ρ1.set x (some (.list (xs ++ [d])))) := by
  unfold St E; rw [x_app, T_bnd]
  have key : ∀ (d : PyData) (ρ1 : Env), T (flowP N R) (match ρ1[x]? with
    | some (some (.list xs)) => if xs.length < lim then .ok (.nx (ρ1.set x (some (.list (xs ++ [d]))))) else .stuck
    | _ => .stuck) ↔ ∃ xs, ρ1[x]? = some (some (.list xs)) ∧ xs.length < lim ∧ N (ρ1.set x (some (.list (xs ++ [d])))) := by
    intro d ρ1
    split
    · rename_i xs h
      rw [h]
      by_cases hl : xs.length < lim
      · rw [if_pos hl, T_ok]
        constructor
        · exact fun h => ⟨xs, rfl, hl, h⟩
        · rintro ⟨xs', e, _, h⟩
          cases e
          exact h
      · rw [if_neg hl, T_stuck]
        refine ⟨False.elim, ?_⟩
        rintro ⟨xs', e, h, _⟩
        cases e
        exact hl h
    · rename_i h
      rw [T_stuck]
      refine ⟨False.elim, ?_⟩
      rintro ⟨xs, e, _⟩
      exact h xs e
  simp only [key]
theorem St_ext {x : Nat} {e : IE} : St Γ (.ext x e) ρ N R ↔ E Γ e ρ fun d ρ1 => ∃ xs ys, ρ1[x]? = some (some (.list xs)) ∧ d = .list ys ∧ xs.length + ys.length ≤ lim ∧ N (ρ1.set x (some (.list (xs ++ ys)))) := by
  unfold St E; rw [x_ext, T_bnd]
  have key : ∀ (d : PyData) (ρ1 : Env), T (flowP N R) (match ρ1[x]?, d with
    | some (some (.list xs)), .list ys => if xs.length + ys.length ≤ lim then .ok (.nx (ρ1.set x (some (.list (xs ++ ys))))) else .stuck
    | _, _ => .stuck) ↔ ∃ xs ys, ρ1[x]? = some (some (.list xs)) ∧ d = .list ys ∧ xs.length + ys.length ≤ lim ∧ N (ρ1.set x (some (.list (xs ++ ys)))) := by
    intro d ρ1
    split
    · rename_i xs ys h
      rw [h]
      by_cases hl : xs.length + ys.length ≤ lim
      · rw [if_pos hl, T_ok]
        constructor
        · exact fun h => ⟨xs, ys, rfl, rfl, hl, h⟩
        · rintro ⟨xs', ys', e, e2, _, h⟩
          cases e
          cases e2
          exact h
      · rw [if_neg hl, T_stuck]
        refine ⟨False.elim, ?_⟩
        rintro ⟨xs', ys', e, e2, h, _⟩
        cases e
        cases e2
        exact hl h
    · rename_i h
      rw [T_stuck]
      refine ⟨False.elim, ?_⟩
      rintro ⟨xs, ys, e, e2, _⟩
      exact h xs ys e e2
  simp only [key]
theorem St_ret {e : IE} : St Γ (.ret e) ρ N R ↔ E Γ e ρ R := by
  unfold St E; rw [x_ret, T_bnd]; simp only [T_ok, flowP]
theorem St_if {c : IC} {a b : ISs} : St Γ (.ite c a b) ρ N R ↔ Et Γ c ρ fun k ρ1 => ifB k (Ss Γ a ρ1 N R) (Ss Γ b ρ1 N R) := by
  unfold St Et Ss; rw [x_if, T_bnd]; simp only [T_ifB]
theorem St_for {g : List Nat} {t : Tgt} {it : II} {b : ISs} : St Γ (.for_ g t it b) ρ N R ↔ EI Γ it ρ fun xs ρ1 => loopX Γ t b xs ρ1 N R := by
  unfold St EI loopX; rw [x_for, T_bnd]
theorem St_pas : St Γ .pas ρ N R ↔ N ρ := T_ok
theorem Ss_nil : Ss Γ .nil ρ N R ↔ N ρ := T_ok
theorem Ss_cons {s : IS} {r : ISs} : Ss Γ (.cons s r) ρ N R ↔ St Γ s ρ (fun ρ1 => Ss Γ r ρ1 N R) R := by
  unfold Ss St; rw [x_s1, T_bnd]
  have key : ∀ fl : Flow, T (flowP N R) (aftF (execs Γ r) fl) ↔ flowP (fun ρ1 => T (flowP N R) (execs Γ r ρ1)) R fl := by
    intro fl
    cases fl with
    | nx ρ => exact Iff.rfl
    | rt d ρ => exact T_ok
  simp only [key]
/-- a def -/
def endP (br : List Nat) (P : PyData → List PyData → Prop) (d : PyData) (ρ : Env) : Prop := (outs br ρ).all intList = true ∧ P d (outs br ρ)
theorem mng_T {F : Fn} {ds : List PyData} {P : PyData → List PyData → Prop} (hl : ds.length = F.np) : T (fun p => P p.1 p.2) (F.mng Γ ds) ↔ Ss Γ F.body (ds.map some ++ List.replicate (F.n - F.np) none) (fun ρ => endP F.br P .none ρ) (fun d ρ => endP F.br P d ρ) := by
  unfold Fn.mng Ss endP
  rw [if_pos hl]
  cases execs Γ F.body (ds.map some ++ List.replicate (F.n - F.np) none) with
  | stuck => exact ⟨fun ⟨_, e, _⟩ => (by cases e), fun ⟨_, e, _⟩ => (by cases e)⟩
  | exc c xs ρ => exact ⟨fun ⟨_, e, _⟩ => (by cases e), fun ⟨_, e, _⟩ => (by cases e)⟩
  | ok fl =>
    rw [T_ok]
    cases fl with
    | nx ρ =>
      show T _ (if (outs F.br ρ).all intList = true then _ else _) ↔ _
      by_cases h : (outs F.br ρ).all intList = true
      · rw [if_pos h, T_ok]
        exact ⟨fun p => ⟨h, p⟩, fun p => p.2⟩
      · rw [if_neg h, T_stuck]
        exact ⟨False.elim, fun p => h p.1⟩
    | rt d ρ =>
      show T _ (if (outs F.br ρ).all intList = true then _ else _) ↔ _
      by_cases h : (outs F.br ρ).all intList = true
      · rw [if_pos h, T_ok]
        exact ⟨fun p => ⟨h, p⟩, fun p => p.2⟩
      · rw [if_neg h, T_stuck]
        exact ⟨False.elim, fun p => h p.1⟩
end
/-! ### values -/
section
variable {a b : Int} {xs ys : List PyData} {P : PyData → Prop} {Q : Bool → Prop}
theorem ifB_tt {A B : Prop} : ifB true A B ↔ A := by simp [ifB]
theorem ifB_ff {A B : Prop} : ifB false A B ↔ B := by simp [ifB]
theorem ifB_dec {c : Prop} [Decidable c] {A B : Prop} : ifB (decide c) A B ↔ (c → A) ∧ (¬ c → B) := by simp [ifB]
theorem ifB_not {k : Bool} {A B : Prop} : ifB (!k) A B ↔ ifB k B A := by cases k <;> simp [ifB]
theorem op_add : opX .add (.int a) (.int b) P ↔ P (.int (a + b)) := by simp [opX, binD]
theorem op_sub : opX .sub (.int a) (.int b) P ↔ P (.int (a - b)) := by simp [opX, binD]
theorem op_mul : opX .mul (.int a) (.int b) P ↔ bitsOk a b = true ∧ P (.int (a * b)) := by
  unfold opX binD
  by_cases h : bitsOk a b = true <;> simp [h]
theorem op_mod : opX .mod (.int a) (.int b) P ↔ 0 < b ∧ P (.int (a % b)) := by
  unfold opX binD
  by_cases h : 0 < b <;> simp [h]
theorem op_fdiv : opX .fdiv (.int a) (.int b) P ↔ (0 < b ∧ b.natAbs.log2 < 9000) ∧ P (.int (a / b)) := by
  unfold opX binD
  by_cases h : 0 < b ∧ b.natAbs.log2 < 9000 <;> simp [h]
theorem op_pow : opX .pow (.int a) (.int b) P ↔ (0 ≤ b ∧ b ≤ 1000 ∧ a.natAbs.log2 < 10000) ∧ P (.int (a ^ b.toNat)) := by
  unfold opX binD
  by_cases h : 0 ≤ b ∧ b ≤ 1000 ∧ a.natAbs.log2 < 10000 <;> simp [h]
theorem op_addt : opX .add (.tuple xs) (.tuple ys) P ↔ xs.length + ys.length ≤ lim ∧ P (.tuple (xs ++ ys)) := by
  unfold opX binD
  by_cases h : xs.length + ys.length ≤ lim <;> simp [h]
theorem op_addl : opX .add (.list xs) (.list ys) P ↔ xs.length + ys.length ≤ lim ∧ P (.list (xs ++ ys)) := by
  unfold opX binD
  by_cases h : xs.length + ys.length ≤ lim <;> simp [h]
theorem cm_lt : cmX .lt (.int a) (.int b) Q ↔ Q (decide (a < b)) := by simp [cmX, cmpD, onInts]
theorem cm_le : cmX .le (.int a) (.int b) Q ↔ Q (decide (a ≤ b)) := by simp [cmX, cmpD, onInts]
theorem cm_gt : cmX .gt (.int a) (.int b) Q ↔ Q (decide (b < a)) := by simp [cmX, cmpD, onInts]
theorem cm_ge : cmX .ge (.int a) (.int b) Q ↔ Q (decide (b ≤ a)) := by simp [cmX, cmpD, onInts]
theorem eq_ints : eqOk (.int a) (.int b) = true := by simp [eqOk, PyData.plain, PyData.depth]
theorem eqv_ints : PyData.eqv (.int a) (.int b) = decide (a = b) := by
  show (a == b) = _
  rfl
theorem cm_eq : cmX .eq (.int a) (.int b) Q ↔ Q (decide (a = b)) := by simp [cmX, cmpD, eq_ints, eqv_ints]
theorem cm_ne : cmX .ne (.int a) (.int b) Q ↔ Q (!decide (a = b)) := by
  simp only [cmX, cmpD, eq_ints, eqv_ints, if_true, Option.some.injEq, exists_eq_left']
theorem b_bool {k : Bool} : bX (.bool k) Q ↔ Q k := by simp [bX, asB]
theorem t_bool {k : Bool} : tX (.bool k) Q ↔ Q k := by simp [tX, truD]
theorem bi_len_l : biX .len [.list xs] P ↔ P (.int xs.length) := by simp [biX, biD]
theorem bi_len_t : biX .len [.tuple xs] P ↔ P (.int xs.length) := by simp [biX, biD]
theorem bi_tuple_l : biX .tuple [.list xs] P ↔ P (.tuple xs) := by simp [biX, biD]
theorem bi_tuple_t : biX .tuple [.tuple xs] P ↔ P (.tuple xs) := by simp [biX, biD]
theorem bi_list_l : biX .list [.list xs] P ↔ P (.list xs) := by simp [biX, biD]
theorem bi_list_t : biX .list [.tuple xs] P ↔ P (.list xs) := by simp [biX, biD]
theorem bi_int_i : biX .int [.int a] P ↔ P (.int a) := by simp [biX, biD]
theorem bi_int_b {k : Bool} : biX .int [.bool k] P ↔ P (.int (if k = true then 1 else 0)) := by simp [biX, biD]
theorem bi_absI : biX .abs [.int a] P ↔ P (.int (if a < 0 then -a else a)) := by simp [biX, biD]
theorem ix_list : ixX (.list xs) (.int a) P ↔ ∃ d, L2.atI xs a = some d ∧ P d := by simp [ixX, idxD]
theorem ix_tuple : ixX (.tuple xs) (.int a) P ↔ ∃ d, L2.atI xs a = some d ∧ P d := by simp [ixX, idxD]
theorem at_nat {n : Nat} : L2.atI xs (n : Int) = xs[n]? := by
  unfold L2.atI L2.ixN
  rw [if_pos (by omega)]
  by_cases h : n < xs.length
  · rw [if_pos (by omega)]
    simp
  · rw [if_neg (by omega), List.getElem?_eq_none (by omega)]
    rfl
theorem at_0 : L2.atI xs 0 = xs[0]? := at_nat (n := 0)
theorem at_1 : L2.atI xs 1 = xs[1]? := at_nat (n := 1)
theorem at_2 : L2.atI xs 2 = xs[2]? := at_nat (n := 2)
theorem at_3 : L2.atI xs 3 = xs[3]? := at_nat (n := 3)
theorem ixn_0 {n : Nat} (h : 0 < n) : L2.ixN n 0 = some 0 := by simp [L2.ixN, h]
theorem ixn_nat {n i : Nat} (h : i < n) : L2.ixN n (i : Int) = some i := by
  unfold L2.ixN
  rw [if_pos (by omega), if_pos (by omega)]
  simp
end
end Hx

set_option Elab.async false
set_option linter.all false
set_option maxRecDepth 100000
set_option maxHeartbeats 4000000
/-! FS: terms that many laws share. -/
namespace Hx
open PySem
/-- 0 values, 1 one, 2 other -/
def F_is_ascending : Fn := ⟨3, 1, [],
 (.cons (.ret (.bi .all (.cons (.comp (.tup [1, 2]) (.zip (.cons (.v 0) (.cons (.sl (.v 0) (.som (.lit (.int 1))) .non) .nil))) .nil (.cmp .lt (.v 1) (.v 2))) .nil)))
 .nil)⟩
/-- 0 value -/
def F_is_integer : Fn := ⟨1, 1, [],
 (.cons (.ret (.and (.isa .int (.v 0)) (.cons (.not (.isa .bool (.v 0))) .nil)))
 .nil)⟩
/-- 0 value, 1 low, 2 high -/
def F_is_between (c_is_integer : Nat) : Fn := ⟨3, 3, [],
 (.cons (.ret (.and (.call c_is_integer (.cons (.v 0) .nil)) (.cons (.chain .le .le (.v 1) (.v 0) (.v 2)) .nil)))
 .nil)⟩
/-- 0 value, 1 limit, 2 one -/
def F_are_numbers_below (c_is_between : Nat) (c_is_ascending : Nat) : Fn := ⟨3, 2, [],
 (.cons (.ret (.and (.isa .tuple (.v 0)) (.cons (.bi .all (.cons (.comp (.v 2) (.seq (.v 0)) .nil (.call c_is_between (.cons (.v 2) (.cons (.lit (.int 0)) (.cons (.bin .sub (.v 1) (.lit (.int 1))) .nil))))) .nil)) (.cons (.call c_is_ascending (.cons (.v 0) .nil)) .nil))))
 .nil)⟩
/-- 0 numbers, 1 found, 2 number -/
def F_product_of : Fn := ⟨3, 1, [],
 (.cons (.asg 1 (.lit (.int 1)))
 (.cons (.for_ [] (.v 2) (.seq (.v 0))
  (.cons (.aug .mul 1 (.v 2))
  .nil))
 (.cons (.ret (.v 1))
 .nil)))⟩
/-- 0 value, 1 size -/
def F_are_sizes (c_is_between : Nat) (c_product_of : Nat) : Fn := ⟨2, 1, [],
 (.cons (.ite (.or (.not (.val (.isa .tuple (.v 0)))) (.cons (.not (.val (.chain .le .le (.lit (.int 1)) (.bi .len (.cons (.v 0) .nil)) (.con "MAX_QUESTIONS" (.int 8))))) .nil))
  (.cons (.ret (.lit (.bl false)))
  .nil)
  .nil)
 (.cons (.ret (.and (.bi .all (.cons (.comp (.v 1) (.seq (.v 0)) .nil (.call c_is_between (.cons (.v 1) (.cons (.con "MIN_ANSWERS" (.int 2)) (.cons (.con "MAX_ANSWERS" (.int 4)) .nil))))) .nil)) (.cons (.cmp .le (.call c_product_of (.cons (.v 0) .nil)) (.con "MAX_FULL" (.int 256))) .nil)))
 .nil))⟩
/-- 0 value, 1 covered, 2 sizes, 3 contexts, 4 context, 5 question -/
def F_is_scenario (c_are_sizes : Nat) (c_are_numbers_below : Nat) (c_is_ascending : Nat) : Fn := ⟨6, 1, [],
 (.cons (.ite (.or (.not (.val (.isa .tuple (.v 0)))) (.cons (.val (.cmp .ne (.bi .len (.cons (.v 0) .nil)) (.lit (.int 2)))) (.cons (.not (.val (.call c_are_sizes (.cons (.idx (.v 0) (.lit (.int 0))) .nil)))) .nil)))
  (.cons (.ret (.lit (.bl false)))
  .nil)
  .nil)
 (.cons (.unp [2, 3] (.v 0))
 (.cons (.ite (.or (.not (.val (.isa .tuple (.v 3)))) (.cons (.not (.val (.chain .le .le (.lit (.int 1)) (.bi .len (.cons (.v 3) .nil)) (.con "MAX_CONTEXTS" (.int 28))))) .nil))
  (.cons (.ret (.lit (.bl false)))
  .nil)
  .nil)
 (.cons (.ite (.not (.val (.bi .all (.cons (.comp (.v 4) (.seq (.v 3)) .nil (.and (.cmp .ne (.v 4) (.tup .nil)) (.cons (.call c_are_numbers_below (.cons (.v 4) (.cons (.bi .len (.cons (.v 2) .nil)) .nil))) .nil))) .nil))))
  (.cons (.ret (.lit (.bl false)))
  .nil)
  .nil)
 (.cons (.asg 1 (.dcomp2 (.v 4) (.seq (.v 3)) (.v 5) (.seq (.v 4)) (.v 5) (.lit (.bl true))))
 (.cons (.ret (.and (.call c_is_ascending (.cons (.v 3) .nil)) (.cons (.cmp .eq (.bi .len (.cons (.v 1) .nil)) (.bi .len (.cons (.v 2) .nil))) .nil)))
 .nil))))))⟩
/-- 0 _law_script, 1 _law_k, 2 _law_cell, 3 _law_mixed -/
def F_law_pot : Fn := ⟨4, 2, [],
 (.cons (.asg 2 (.lit (.int 0)))
 (.cons (.ite (.val (.cmp .lt (.v 1) (.bi .len (.cons (.v 0) .nil))))
  (.cons (.asg 2 (.bin .mod (.bi .abs (.cons (.idx (.v 0) (.v 1)) .nil)) (.bin .pow (.bin .pow (.lit (.int 10)) (.lit (.int 60))) (.lit (.int 14)))))
  .nil)
  .nil)
 (.cons (.asg 3 (.bin .mod (.bin .pow (.bin .add (.bin .add (.bin .mod (.v 2) (.lit (.int 2305843009213693921))) (.bin .mul (.lit (.int 104729)) (.v 1))) (.lit (.int 1))) (.lit (.int 3))) (.lit (.int 2305843009213693951))))
 (.cons (.ret (.lst (.cons (.bin .mul (.v 2) (.bi .int (.cons (.cmp .ge (.v 2) (.bin .pow (.lit (.int 10)) (.lit (.int 18)))) .nil))) (.cons (.v 3) (.cons (.lit (.int 0)) .nil)))))
 .nil))))⟩
/-- 0 _law_pot_here, 1 _law_number, 2 _law_one, 3 _law_other, 4 _law_found -/
def F_law_take : Fn := ⟨5, 2, [0],
 (.cons (.ite (.val (.cmp .gt (.idx (.v 0) (.lit (.int 0))) (.lit (.int 0))))
  (.cons (.asg 4 (.bin .mod (.idx (.v 0) (.lit (.int 0))) (.v 1)))
  (.cons (.setix 0 (.lit (.int 0)) (.bin .fdiv (.idx (.v 0) (.lit (.int 0))) (.v 1)))
  (.cons (.ret (.v 4))
  .nil)))
  .nil)
 (.cons (.setix 0 (.lit (.int 2)) (.bin .add (.idx (.v 0) (.lit (.int 2))) (.lit (.int 1))))
 (.cons (.asg 2 (.bin .mod (.bin .pow (.bin .add (.idx (.v 0) (.lit (.int 1))) (.bin .mul (.lit (.int 86028157)) (.idx (.v 0) (.lit (.int 2))))) (.lit (.int 3))) (.lit (.int 2305843009213693907))))
 (.cons (.asg 3 (.bin .mod (.bin .pow (.bin .add (.bin .add (.v 2) (.bin .mod (.idx (.v 0) (.lit (.int 1))) (.lit (.int 1000003)))) (.bin .mul (.lit (.int 31)) (.idx (.v 0) (.lit (.int 2))))) (.lit (.int 5))) (.lit (.int 2305843009213693921))))
 (.cons (.ret (.bin .mod (.bin .fdiv (.v 3) (.lit (.int 4096))) (.v 1)))
 .nil)))))⟩
/-- 0 _law_pot_here, 1 _law_most, 2 _law_full, 3 _law_sizes_here, 4 _law_question, 5 _law_size -/
def F_law_sizes (c_law_take : Nat) : Fn := ⟨6, 3, [0],
 (.cons (.asg 3 (.lst .nil))
 (.cons (.for_ [0, 3] (.v 4) (.rng (.cons (.bin .add (.lit (.int 1)) (.call c_law_take (.cons (.v 0) (.cons (.v 1) .nil)))) .nil))
  (.cons (.asg 5 (.idx (.lst (.cons (.lit (.int 2)) (.cons (.lit (.int 2)) (.cons (.lit (.int 2)) (.cons (.lit (.int 3)) (.cons (.lit (.int 2)) (.cons (.lit (.int 4)) .nil))))))) (.call c_law_take (.cons (.v 0) (.cons (.lit (.int 6)) .nil)))))
  (.cons (.ite (.val (.cmp .gt (.v 5) (.v 2)))
   (.cons (.asg 5 (.lit (.int 2)))
   .nil)
   .nil)
  (.cons (.ite (.val (.cmp .le (.v 5) (.v 2)))
   (.cons (.app 3 (.v 5))
   (.cons (.asg 2 (.bin .fdiv (.v 2) (.v 5)))
   .nil))
   .nil)
  .nil))))
 (.cons (.ret (.bi .tuple (.cons (.v 3) .nil)))
 .nil)))⟩
/-- 0 _law_pot_here, 1 _law_count, 2 _law_width, 3 _law_found, 4 _law_turn, 5 _law_question -/
def F_law_context (c_law_take : Nat) : Fn := ⟨6, 3, [0],
 (.cons (.asg 3 (.lst .nil))
 (.cons (.for_ [0, 3] (.v 4) (.rng (.cons (.bin .add (.lit (.int 1)) (.call c_law_take (.cons (.v 0) (.cons (.v 2) .nil)))) .nil))
  (.cons (.asg 5 (.call c_law_take (.cons (.v 0) (.cons (.v 1) .nil))))
  (.cons (.ite (.val (.cmp .notin (.v 5) (.v 3)))
   (.cons (.app 3 (.v 5))
   .nil)
   .nil)
  .nil)))
 (.cons (.ret (.bi .tuple (.cons (.bi .sorted (.cons (.v 3) .nil)) .nil)))
 .nil)))⟩
/-- 0 _law_sizes_here, 1 _law_asked, 2 _law_found, 3 _law_question, 4 _law_longer, 5 _law_row, 6 _law_answer -/
def F_law_rows : Fn := ⟨7, 2, [],
 (.cons (.asg 2 (.lst (.cons (.tup .nil) .nil)))
 (.cons (.for_ [] (.v 3) (.seq (.v 1))
  (.cons (.asg 4 (.lst .nil))
  (.cons (.for_ [4] (.v 5) (.seq (.v 2))
   (.cons (.ext 4 (.comp (.v 6) (.rng (.cons (.idx (.v 0) (.v 3)) .nil)) .nil (.bin .add (.v 5) (.tup (.cons (.v 6) .nil)))))
   .nil))
  (.cons (.asg 2 (.v 4))
  .nil))))
 (.cons (.ret (.v 2))
 .nil)))⟩
/-- 0 _law_pot_here, 1 _law_sizes_here, 2 _law_lines, 3 _law_some, 4 _law_turn, 5 _law_three, 6 _law_triples, 7 _law_pairs_here, 8 _law_way, 9 _law_shapes, 10 _law_shape, 11 _law_found, 12 _law_part, 13 _law_at, 14 _law_context_here -/
def F_law_cycle (c_law_take : Nat) (c_law_rows : Nat) : Fn := ⟨15, 3, [0],
 (.cons (.asg 3 (.mk false (.rng (.cons (.bi .len (.cons (.v 1) .nil)) .nil))))
 (.cons (.for_ [0, 3] (.v 4) (.rng (.cons (.bin .sub (.bi .len (.cons (.v 1) .nil)) (.lit (.int 4))) .nil))
  (.cons (.ex (.pop 3 (.cons (.call c_law_take (.cons (.v 0) (.cons (.bi .len (.cons (.v 3) .nil)) .nil))) .nil)))
  .nil))
 (.cons (.asg 5 (.lst (.cons (.tup (.cons (.lit (.int 0)) (.cons (.lit (.int 1)) .nil))) (.cons (.tup (.cons (.lit (.int 0)) (.cons (.lit (.int 2)) .nil))) (.cons (.tup (.cons (.lit (.int 1)) (.cons (.lit (.int 2)) .nil))) .nil)))))
 (.cons (.asg 6 (.lst (.cons (.tup (.cons (.lit (.int 0)) (.cons (.lit (.int 1)) (.cons (.lit (.int 2)) .nil)))) (.cons (.tup (.cons (.lit (.int 0)) (.cons (.lit (.int 1)) (.cons (.lit (.int 3)) .nil)))) (.cons (.tup (.cons (.lit (.int 0)) (.cons (.lit (.int 2)) (.cons (.lit (.int 3)) .nil)))) (.cons (.tup (.cons (.lit (.int 1)) (.cons (.lit (.int 2)) (.cons (.lit (.int 3)) .nil)))) .nil))))))
 (.cons (.asg 7 (.bin .add (.v 5) (.lst (.cons (.tup (.cons (.lit (.int 0)) (.cons (.lit (.int 3)) .nil))) (.cons (.tup (.cons (.lit (.int 1)) (.cons (.lit (.int 3)) .nil))) (.cons (.tup (.cons (.lit (.int 2)) (.cons (.lit (.int 3)) .nil))) .nil))))))
 (.cons (.asg 8 (.call c_law_take (.cons (.v 0) (.cons (.lit (.int 6)) .nil))))
 (.cons (.asg 9 (.lst (.cons (.idx (.lst (.cons (.v 5) (.cons (.v 5) (.cons (.lst (.cons (.tup (.cons (.lit (.int 0)) (.cons (.lit (.int 1)) .nil))) (.cons (.tup (.cons (.lit (.int 0)) (.cons (.lit (.int 3)) .nil))) (.cons (.tup (.cons (.lit (.int 1)) (.cons (.lit (.int 2)) .nil))) (.cons (.tup (.cons (.lit (.int 2)) (.cons (.lit (.int 3)) .nil))) .nil))))) (.cons (.v 6) (.cons (.v 7) (.cons (.lst .nil) .nil))))))) (.v 8)) (.cons (.v 5) (.cons (.lst .nil) .nil)))))
 (.cons (.ite (.val (.cmp .lt (.bi .len (.cons (.v 3) .nil)) (.lit (.int 4))))
  (.cons (.asg 9 (.lst (.cons (.ite (.and (.val (.cmp .lt (.v 8) (.lit (.int 5)))) (.cons (.val (.cmp .eq (.bi .len (.cons (.v 3) .nil)) (.lit (.int 3)))) .nil)) (.v 5) (.lst .nil)) (.cons (.lst .nil) .nil))))
  .nil)
  .nil)
 (.cons (.for_ [0, 3] (.v 10) (.seq (.v 9))
  (.cons (.asg 11 (.comp (.v 12) (.seq (.v 10)) .nil (.bi .tuple (.cons (.comp (.v 13) (.seq (.v 12)) .nil (.idx (.v 3) (.v 13))) .nil))))
  (.cons (.ite (.val (.cmp .le (.bin .add (.bi .sum (.cons (.comp (.v 14) (.seq (.v 11)) .nil (.bi .len (.cons (.call c_law_rows (.cons (.v 1) (.cons (.v 14) .nil))) .nil))) .nil)) (.bi .sum (.cons (.v 1) .nil))) (.v 2)))
   (.cons (.ret (.v 11))
   .nil)
   .nil)
  .nil)))
 (.cons (.ret (.lst .nil))
 .nil))))))))))⟩
/-- 0 _law_pot_here, 1 _law_most, 2 _law_full, 3 _law_width, 4 _law_lines, 5 _law_sizes_here, 6 _law_found, 7 _law_left, 8 _law_turn, 9 _law_question, 10 _law_context_here, 11 _law_cost -/
def F_law_scenario (c_law_sizes : Nat) (c_law_cycle : Nat) (c_law_rows : Nat) (c_law_take : Nat) (c_law_context : Nat) : Fn := ⟨12, 5, [0],
 (.cons (.asg 5 (.call c_law_sizes (.cons (.v 0) (.cons (.v 1) (.cons (.v 2) .nil)))))
 (.cons (.asg 6 (.call c_law_cycle (.cons (.v 0) (.cons (.v 5) (.cons (.v 4) .nil)))))
 (.cons (.asg 7 (.bin .sub (.v 4) (.bi .sum (.cons (.comp (.v 10) (.seq (.v 6)) .nil (.bi .len (.cons (.call c_law_rows (.cons (.v 5) (.cons (.v 10) .nil))) .nil))) .nil))))
 (.cons (.for_ [0, 6] (.v 8) (.rng (.cons (.bin .add (.lit (.int 1)) (.call c_law_take (.cons (.v 0) (.cons (.lit (.int 7)) .nil)))) .nil))
  (.cons (.asg 10 (.call c_law_context (.cons (.v 0) (.cons (.bi .len (.cons (.v 5) .nil)) (.cons (.v 3) .nil)))))
  (.cons (.asg 11 (.bi .len (.cons (.call c_law_rows (.cons (.v 5) (.cons (.v 10) .nil))) .nil)))
  (.cons (.ite (.and (.val (.cmp .notin (.v 10) (.v 6))) (.cons (.val (.cmp .le (.bin .add (.v 11) (.bi .sum (.cons (.v 5) .nil))) (.v 7))) .nil))
   (.cons (.app 6 (.v 10))
   (.cons (.asg 7 (.bin .sub (.v 7) (.v 11)))
   .nil))
   .nil)
  .nil))))
 (.cons (.for_ [0, 6] (.v 9) (.rng (.cons (.bi .len (.cons (.v 5) .nil)) .nil))
  (.cons (.ite (.not (.val (.bi .any (.cons (.comp (.v 10) (.seq (.v 6)) .nil (.cmp .isin (.v 9) (.v 10))) .nil))))
   (.cons (.app 6 (.tup (.cons (.v 9) .nil)))
   .nil)
   .nil)
  .nil))
 (.cons (.ret (.tup (.cons (.v 5) (.cons (.bi .tuple (.cons (.bi .sorted (.cons (.v 6) .nil)) .nil)) .nil))))
 .nil))))))⟩
/-- 0 _law_thing, 1 _law_low, 2 _law_high -/
def F_law_whole : Fn := ⟨3, 3, [],
 (.cons (.ret (.and (.isa .int (.v 0)) (.cons (.not (.isa .bool (.v 0))) (.cons (.chain .le .le (.v 1) (.v 0) (.v 2)) .nil))))
 .nil)⟩
/-- 0 _law_thing, 1 _law_high, 2 _law_one, 3 _law_other -/
def F_law_rises (c_law_whole : Nat) : Fn := ⟨4, 2, [],
 (.cons (.ite (.or (.not (.val (.isa .tuple (.v 0)))) (.cons (.val (.cmp .eq (.v 0) (.tup .nil))) .nil))
  (.cons (.ret (.lit (.bl false)))
  .nil)
  .nil)
 (.cons (.ite (.not (.val (.bi .all (.cons (.comp (.v 2) (.seq (.v 0)) .nil (.call c_law_whole (.cons (.v 2) (.cons (.lit (.int 0)) (.cons (.v 1) .nil))))) .nil))))
  (.cons (.ret (.lit (.bl false)))
  .nil)
  .nil)
 (.cons (.ret (.bi .all (.cons (.comp (.tup [2, 3]) (.zip (.cons (.v 0) (.cons (.sl (.v 0) (.som (.lit (.int 1))) .non) .nil))) .nil (.cmp .lt (.v 2) (.v 3))) .nil)))
 .nil)))⟩
/-- 0 _law_thing, 1 _law_full, 2 _law_size, 3 _law_sizes_here, 4 _law_contexts, 5 _law_question, 6 _law_context_here, 7 _law_one, 8 _law_other -/
def F_law_is_one (c_law_whole : Nat) (c_law_rises : Nat) : Fn := ⟨9, 1, [],
 (.cons (.ite (.or (.not (.val (.isa .tuple (.v 0)))) (.cons (.val (.cmp .ne (.bi .len (.cons (.v 0) .nil)) (.lit (.int 2)))) (.cons (.not (.val (.isa .tuple (.idx (.v 0) (.lit (.int 0)))))) .nil)))
  (.cons (.ret (.lit (.bl false)))
  .nil)
  .nil)
 (.cons (.unp [3, 4] (.v 0))
 (.cons (.ite (.or (.not (.val (.chain .le .le (.lit (.int 1)) (.bi .len (.cons (.v 3) .nil)) (.lit (.int 8))))) (.cons (.not (.val (.bi .all (.cons (.comp (.v 2) (.seq (.v 3)) .nil (.call c_law_whole (.cons (.v 2) (.cons (.lit (.int 2)) (.cons (.lit (.int 4)) .nil))))) .nil)))) .nil))
  (.cons (.ret (.lit (.bl false)))
  .nil)
  .nil)
 (.cons (.asg 1 (.lit (.int 1)))
 (.cons (.for_ [] (.v 2) (.seq (.v 3))
  (.cons (.asg 1 (.bin .mul (.v 1) (.v 2)))
  .nil))
 (.cons (.ite (.or (.val (.cmp .gt (.v 1) (.lit (.int 256)))) (.cons (.not (.val (.isa .tuple (.v 4)))) (.cons (.not (.val (.chain .le .le (.lit (.int 1)) (.bi .len (.cons (.v 4) .nil)) (.lit (.int 28))))) .nil)))
  (.cons (.ret (.lit (.bl false)))
  .nil)
  .nil)
 (.cons (.ite (.not (.val (.bi .all (.cons (.comp (.v 6) (.seq (.v 4)) .nil (.call c_law_rises (.cons (.v 6) (.cons (.bin .sub (.bi .len (.cons (.v 3) .nil)) (.lit (.int 1))) .nil)))) .nil))))
  (.cons (.ret (.lit (.bl false)))
  .nil)
  .nil)
 (.cons (.ite (.not (.val (.bi .all (.cons (.comp (.tup [7, 8]) (.zip (.cons (.v 4) (.cons (.sl (.v 4) (.som (.lit (.int 1))) .non) .nil))) .nil (.cmp .lt (.v 7) (.v 8))) .nil))))
  (.cons (.ret (.lit (.bl false)))
  .nil)
  .nil)
 (.cons (.ret (.bi .all (.cons (.comp (.v 5) (.rng (.cons (.bi .len (.cons (.v 3) .nil)) .nil)) .nil (.bi .any (.cons (.comp (.v 6) (.seq (.v 4)) .nil (.cmp .isin (.v 5) (.v 6))) .nil))) .nil)))
 .nil)))))))))⟩
/-- 0 _law_row, 1 _law_at, 2 _law_thing -/
def F_law_put : Fn := ⟨3, 3, [],
 (.cons (.ret (.bin .add (.bin .add (.sl (.v 0) .non (.som (.v 1))) (.tup (.cons (.v 2) .nil))) (.sl (.v 0) (.som (.bin .add (.v 1) (.lit (.int 1)))) .non)))
 .nil)⟩
/-- 0 _law_pot_here, 1 _law_sizes_here, 2 _law_at, 3 _law_some, 4 _law_thing -/
def F_law_bent_sizes (c_law_take : Nat) (c_law_put : Nat) : Fn := ⟨5, 2, [0],
 (.cons (.asg 2 (.call c_law_take (.cons (.v 0) (.cons (.bi .len (.cons (.v 1) .nil)) .nil))))
 (.cons (.asg 3 (.comp (.v 4) (.seq (.lst (.cons (.lit (.int 1)) (.cons (.lit (.int 5)) (.cons (.lit (.int 0)) (.cons (.neg (.lit (.int 2))) (.cons (.lit (.bl true)) (.cons (.lit .non) (.cons (.lit (.str "2")) (.cons (.tup (.cons (.lit (.int 2)) .nil)) (.cons (.lst (.cons (.lit (.int 2)) .nil)) (.cons (.lit (.int 3)) (.cons (.lit (.int 4)) (.cons (.lit (.int 2)) .nil)))))))))))))) .nil (.call c_law_put (.cons (.v 1) (.cons (.v 2) (.cons (.v 4) .nil))))))
 (.cons (.ext 3 (.lst (.cons (.bin .add (.sl (.v 1) .non (.som (.v 2))) (.sl (.v 1) (.som (.bin .add (.v 2) (.lit (.int 1)))) .non)) (.cons (.bin .add (.v 1) (.tup (.cons (.lit (.int 2)) .nil))) (.cons (.bin .add (.v 1) (.tup (.cons (.lit (.int 4)) (.cons (.lit (.int 4)) .nil)))) (.cons (.bi .list (.cons (.v 1) .nil)) (.cons (.tup .nil) (.cons (.bin .add (.v 1) (.bin .mul (.tup (.cons (.lit (.int 2)) .nil)) (.lit (.int 8)))) .nil))))))))
 (.cons (.ret (.idx (.v 3) (.call c_law_take (.cons (.v 0) (.cons (.bi .len (.cons (.v 3) .nil)) .nil)))))
 .nil))))⟩
/-- 0 _law_pot_here, 1 _law_sizes_here, 2 _law_contexts, 3 _law_at, 4 _law_context_here, 5 _law_spot, 6 _law_changed, 7 _law_odd, 8 _law_some, 9 _law_thing, 10 _law_question -/
def F_law_bent_contexts (c_law_take : Nat) (c_law_put : Nat) : Fn := ⟨11, 3, [0],
 (.cons (.asg 3 (.call c_law_take (.cons (.v 0) (.cons (.bi .len (.cons (.v 2) .nil)) .nil))))
 (.cons (.asg 4 (.idx (.v 2) (.v 3)))
 (.cons (.asg 5 (.call c_law_take (.cons (.v 0) (.cons (.bi .len (.cons (.v 4) .nil)) .nil))))
 (.cons (.asg 6 (.lst (.cons (.tup .nil) (.cons (.bi .list (.cons (.v 4) .nil)) (.cons (.rev (.v 4)) (.cons (.bin .add (.v 4) (.sl (.v 4) (.som (.neg (.lit (.int 1)))) .non)) (.cons (.bin .add (.v 4) (.tup (.cons (.bi .len (.cons (.v 1) .nil)) .nil))) (.cons (.bin .add (.tup (.cons (.neg (.lit (.int 1))) .nil)) (.v 4)) (.cons (.lit .non) .nil)))))))))
 (.cons (.asg 7 (.lst (.cons (.lit (.bl true)) (.cons (.lit (.bl false)) (.cons (.lit .non) (.cons (.lit (.str "0")) (.cons (.tup (.cons (.lit (.int 0)) .nil)) (.cons (.bi .len (.cons (.v 1) .nil)) (.cons (.lit (.int 1)) (.cons (.lit (.int 0)) (.cons (.lst (.cons (.lit (.int 1)) .nil)) (.cons .edct .nil))))))))))))
 (.cons (.ext 6 (.comp (.v 9) (.seq (.v 7)) .nil (.call c_law_put (.cons (.v 4) (.cons (.v 5) (.cons (.v 9) .nil))))))
 (.cons (.ext 6 (.lst (.cons (.bin .add (.sl (.v 4) .non (.som (.v 5))) (.sl (.v 4) (.som (.bin .add (.v 5) (.lit (.int 1)))) .non)) (.cons (.lit (.str "01")) (.cons (.lit (.int 0)) .nil)))))
 (.cons (.app 6 (.bi .dict (.cons (.comp (.v 10) (.seq (.v 4)) .nil (.tup (.cons (.v 10) (.cons (.lit (.int 1)) .nil)))) .nil)))
 (.cons (.asg 8 (.comp (.v 9) (.seq (.v 6)) .nil (.call c_law_put (.cons (.v 2) (.cons (.v 3) (.cons (.v 9) .nil))))))
 (.cons (.ext 8 (.lst (.cons (.bin .add (.sl (.v 2) .non (.som (.v 3))) (.sl (.v 2) (.som (.bin .add (.v 3) (.lit (.int 1)))) .non)) (.cons (.rev (.v 2)) (.cons (.bin .add (.v 2) (.sl (.v 2) (.som (.neg (.lit (.int 1)))) .non)) (.cons (.bi .list (.cons (.v 2) .nil)) (.cons (.tup .nil) (.cons (.lit .non) .nil))))))))
 (.cons (.app 8 (.bin .add (.bin .add (.sl (.v 2) .non (.som (.v 3))) (.sl (.v 2) (.som (.v 3)) (.som (.bin .add (.v 3) (.lit (.int 1)))))) (.sl (.v 2) (.som (.v 3)) .non)))
 (.cons (.ret (.idx (.v 8) (.call c_law_take (.cons (.v 0) (.cons (.bi .len (.cons (.v 8) .nil)) .nil)))))
 .nil))))))))))))⟩
/-- 0 _law_pot_here, 1 _law_scenario_here, 2 _law_way, 3 _law_some, 4 _law_sizes_here, 5 _law_contexts -/
def F_law_bent (c_law_take : Nat) (c_law_bent_sizes : Nat) (c_law_bent_contexts : Nat) : Fn := ⟨6, 2, [0],
 (.cons (.unp [4, 5] (.v 1))
 (.cons (.asg 2 (.call c_law_take (.cons (.v 0) (.cons (.lit (.int 10)) .nil))))
 (.cons (.ite (.val (.cmp .lt (.v 2) (.lit (.int 3))))
  (.cons (.ret (.tup (.cons (.call c_law_bent_sizes (.cons (.v 0) (.cons (.v 4) .nil))) (.cons (.v 5) .nil))))
  .nil)
  .nil)
 (.cons (.ite (.val (.cmp .lt (.v 2) (.lit (.int 8))))
  (.cons (.ret (.tup (.cons (.v 4) (.cons (.call c_law_bent_contexts (.cons (.v 0) (.cons (.v 4) (.cons (.v 5) .nil)))) .nil))))
  .nil)
  .nil)
 (.cons (.asg 3 (.lst (.cons (.bi .list (.cons (.v 1) .nil)) (.cons (.bin .add (.v 1) (.tup (.cons (.lit (.int 0)) .nil))) (.cons (.tup (.cons (.v 4) .nil)) (.cons (.lit .non) (.cons (.lit (.int 0)) (.cons (.lit (.str "")) (.cons .edct (.cons (.v 5) (.cons (.tup (.cons (.v 5) (.cons (.v 4) .nil))) (.cons (.tup .nil) (.cons (.v 1) .nil)))))))))))))
 (.cons (.ret (.idx (.v 3) (.call c_law_take (.cons (.v 0) (.cons (.bi .len (.cons (.v 3) .nil)) .nil)))))
 .nil))))))⟩
/-- 0 _law_number, 1 _law_found, 2 _law_one, 3 _law_other -/
def F_law_pairs : Fn := ⟨4, 1, [],
 (.cons (.asg 1 (.lst .nil))
 (.cons (.for_ [1] (.v 2) (.rng (.cons (.lit (.int 8)) .nil))
  (.cons (.ext 1 (.comp (.v 3) (.rng (.cons (.bin .add (.v 2) (.lit (.int 1))) (.cons (.lit (.int 8)) .nil))) .nil (.tup (.cons (.v 2) (.cons (.v 3) .nil)))))
  .nil))
 (.cons (.ret (.bi .tuple (.cons (.bi .sorted (.cons (.bin .add (.comp (.v 2) (.rng (.cons (.lit (.int 8)) .nil)) .nil (.tup (.cons (.v 2) .nil))) (.sl (.v 1) .non (.som (.v 0)))) .nil)) .nil)))
 .nil)))⟩
/-- 0 _law_script, 1 _law_k, 2 _law_number, 3 _law_due, 4 _law_pot_here, 5 _law_scenario_here, 6 _law_thing, 7 _law_held, 8 _law_turn -/
def F_law (c_is_scenario : Nat) (c_law_pairs : Nat) (c_law_pot : Nat) (c_law_scenario : Nat) (c_law_bent : Nat) (c_law_is_one : Nat) : Fn := ⟨9, 1, [],
 (.cons (.ite (.val (.cmp .ne (.tup (.cons (.con "MAX_QUESTIONS" (.int 8)) (.cons (.con "MAX_ANSWERS" (.int 4)) (.cons (.con "MAX_CONTEXTS" (.int 28)) (.cons (.con "MAX_FULL" (.int 256)) .nil))))) (.tup (.cons (.lit (.int 8)) (.cons (.lit (.int 4)) (.cons (.lit (.int 28)) (.cons (.lit (.int 256)) .nil)))))))
  (.cons (.ret (.lit (.bl false)))
  .nil)
  .nil)
 (.cons (.for_ [] (.tup [2, 3]) (.seq (.lst (.cons (.tup (.cons (.lit (.int 20)) (.cons (.lit (.bl true)) .nil))) (.cons (.tup (.cons (.lit (.int 21)) (.cons (.lit (.bl false)) .nil))) (.cons (.tup (.cons (.lit (.int 0)) (.cons (.lit (.bl true)) .nil))) .nil)))))
  (.cons (.ite (.val (.cmp .ne (.bi .repr (.cons (.call c_is_scenario (.cons (.tup (.cons (.bin .mul (.tup (.cons (.lit (.int 2)) .nil)) (.lit (.int 8))) (.cons (.call c_law_pairs (.cons (.v 2) .nil)) .nil))) .nil)) .nil)) (.bi .repr (.cons (.v 3) .nil))))
   (.cons (.ret (.lit (.bl false)))
   .nil)
   .nil)
  .nil))
 (.cons (.ite (.or (.val (.cmp .ne (.call c_is_scenario (.cons (.tup (.cons (.tup (.cons (.lit (.int 4)) (.cons (.lit (.int 4)) (.cons (.lit (.int 4)) (.cons (.lit (.int 4)) .nil))))) (.cons (.tup (.cons (.tup (.cons (.lit (.int 0)) (.cons (.lit (.int 1)) (.cons (.lit (.int 2)) (.cons (.lit (.int 3)) .nil))))) .nil)) .nil))) .nil)) (.lit (.bl true)))) (.cons (.val (.cmp .ne (.call c_is_scenario (.cons (.tup (.cons (.bin .mul (.tup (.cons (.lit (.int 2)) .nil)) (.lit (.int 8))) (.cons (.tup (.cons (.mk true (.rng (.cons (.lit (.int 8)) .nil))) .nil)) .nil))) .nil)) (.lit (.bl true)))) .nil))
  (.cons (.ret (.lit (.bl false)))
  .nil)
  .nil)
 (.cons (.ite (.val (.cmp .ne (.call c_is_scenario (.cons (.tup (.cons (.tup (.cons (.lit (.int 4)) (.cons (.lit (.int 4)) (.cons (.lit (.int 4)) (.cons (.lit (.int 4)) (.cons (.lit (.int 2)) .nil)))))) (.cons (.tup (.cons (.tup (.cons (.lit (.int 0)) (.cons (.lit (.int 1)) (.cons (.lit (.int 2)) (.cons (.lit (.int 3)) (.cons (.lit (.int 4)) .nil)))))) .nil)) .nil))) .nil)) (.lit (.bl false))))
  (.cons (.ret (.lit (.bl false)))
  .nil)
  .nil)
 (.cons (.for_ [] (.v 1) (.rng (.cons (.bi .max2 (.cons (.lit (.int 2)) (.cons (.bi .min2 (.cons (.lit (.int 40)) (.cons (.bi .len (.cons (.v 0) .nil)) .nil))) .nil))) .nil))
  (.cons (.asg 4 (.call c_law_pot (.cons (.v 0) (.cons (.v 1) .nil))))
  (.cons (.asg 5 (.call c_law_scenario (.cons (.v 4) (.cons (.lit (.int 8)) (.cons (.lit (.int 256)) (.cons (.lit (.int 4)) (.cons (.lit (.int 400)) .nil)))))))
  (.cons (.for_ [4] (.v 6) (.seq (.bin .add (.lst (.cons (.v 5) .nil)) (.comp (.v 8) (.rng (.cons (.lit (.int 8)) .nil)) .nil (.call c_law_bent (.cons (.v 4) (.cons (.v 5) .nil))))))
   (.cons (.asg 7 (.bi .repr (.cons (.v 6) .nil)))
   (.cons (.ite (.or (.val (.cmp .ne (.bi .repr (.cons (.call c_is_scenario (.cons (.v 6) .nil)) .nil)) (.bi .repr (.cons (.call c_law_is_one (.cons (.v 6) .nil)) .nil)))) (.cons (.val (.cmp .ne (.bi .repr (.cons (.v 6) .nil)) (.v 7))) .nil))
    (.cons (.ret (.lit (.bl false)))
    .nil)
    .nil)
   .nil)))
  .nil))))
 (.cons (.ret (.lit (.bl true)))
 .nil))))))⟩
/-- 0 scenario -/
def F_need_scenario (c_is_scenario : Nat) : Fn := ⟨1, 1, [],
 (.cons (.ite (.not (.val (.call c_is_scenario (.cons (.v 0) .nil))))
  (.cons .nev
  .nil)
  .nil)
 .nil)⟩
/-- 0 scenario -/
def F_full_size (c_need_scenario : Nat) (c_product_of : Nat) : Fn := ⟨1, 1, [],
 (.cons (.ex (.call c_need_scenario (.cons (.v 0) .nil)))
 (.cons (.ret (.call c_product_of (.cons (.idx (.v 0) (.lit (.int 0))) .nil)))
 .nil))⟩
/-- 0 scenario, 1 index -/
def F_need_index (c_is_between : Nat) : Fn := ⟨2, 2, [],
 (.cons (.ite (.not (.val (.call c_is_between (.cons (.v 1) (.cons (.lit (.int 0)) (.cons (.bin .sub (.bi .len (.cons (.idx (.v 0) (.lit (.int 1))) .nil)) (.lit (.int 1))) .nil))))))
  (.cons .nev
  .nil)
  .nil)
 .nil)⟩
/-- 0 scenario, 1 index -/
def F_context_at (c_need_scenario : Nat) (c_need_index : Nat) : Fn := ⟨2, 2, [],
 (.cons (.ex (.call c_need_scenario (.cons (.v 0) .nil)))
 (.cons (.ex (.call c_need_index (.cons (.v 0) (.cons (.v 1) .nil))))
 (.cons (.ret (.idx (.idx (.v 0) (.lit (.int 1))) (.v 1)))
 .nil)))⟩
/-- 0 scenario, 1 value -/
def F_are_questions (c_are_numbers_below : Nat) : Fn := ⟨2, 2, [],
 (.cons (.ret (.call c_are_numbers_below (.cons (.v 1) (.cons (.bi .len (.cons (.idx (.v 0) (.lit (.int 0))) .nil)) .nil))))
 .nil)⟩
/-- 0 scenario, 1 questions -/
def F_need_questions (c_are_questions : Nat) : Fn := ⟨2, 2, [],
 (.cons (.ite (.not (.val (.call c_are_questions (.cons (.v 0) (.cons (.v 1) .nil)))))
  (.cons .nev
  .nil)
  .nil)
 .nil)⟩
/-- 0 scenario, 1 questions, 2 found, 3 question, 4 row, 5 answer -/
def F_rows_by : Fn := ⟨6, 2, [],
 (.cons (.asg 2 (.lst (.cons (.tup .nil) .nil)))
 (.cons (.for_ [2] (.v 3) (.seq (.v 1))
  (.cons (.asg 2 (.comp2 (.v 4) (.seq (.v 2)) .nil (.v 5) (.rng (.cons (.idx (.idx (.v 0) (.lit (.int 0))) (.v 3)) .nil)) .nil (.bin .add (.v 4) (.tup (.cons (.v 5) .nil)))))
  .nil))
 (.cons (.ret (.bi .tuple (.cons (.v 2) .nil)))
 .nil)))⟩
/-- 0 scenario, 1 questions -/
def F_rows_of (c_need_scenario : Nat) (c_need_questions : Nat) (c_rows_by : Nat) : Fn := ⟨2, 2, [],
 (.cons (.ex (.call c_need_scenario (.cons (.v 0) .nil)))
 (.cons (.ex (.call c_need_questions (.cons (.v 0) (.cons (.v 1) .nil))))
 (.cons (.ret (.call c_rows_by (.cons (.v 0) (.cons (.v 1) .nil))))
 .nil)))⟩
/-- 0 scenario, 1 questions, 2 value, 3 question, 4 answer -/
def F_is_row_of (c_is_between : Nat) : Fn := ⟨5, 3, [],
 (.cons (.ite (.or (.not (.val (.isa .tuple (.v 2)))) (.cons (.val (.cmp .ne (.bi .len (.cons (.v 2) .nil)) (.bi .len (.cons (.v 1) .nil)))) .nil))
  (.cons (.ret (.lit (.bl false)))
  .nil)
  .nil)
 (.cons (.ret (.bi .all (.cons (.comp (.tup [3, 4]) (.zip (.cons (.v 1) (.cons (.v 2) .nil))) .nil (.call c_is_between (.cons (.v 4) (.cons (.lit (.int 0)) (.cons (.bin .sub (.idx (.idx (.v 0) (.lit (.int 0))) (.v 3)) (.lit (.int 1))) .nil))))) .nil)))
 .nil))⟩
/-- 0 scenario, 1 questions, 2 row -/
def F_need_row (c_is_row_of : Nat) : Fn := ⟨3, 3, [],
 (.cons (.ite (.not (.val (.call c_is_row_of (.cons (.v 0) (.cons (.v 1) (.cons (.v 2) .nil))))))
  (.cons .nev
  .nil)
  .nil)
 .nil)⟩
/-- 0 scenario, 1 questions, 2 row, 3 found, 4 question, 5 answer -/
def F_index_by : Fn := ⟨6, 3, [],
 (.cons (.asg 3 (.lit (.int 0)))
 (.cons (.for_ [] (.tup [4, 5]) (.zip (.cons (.v 1) (.cons (.v 2) .nil)))
  (.cons (.asg 3 (.bin .add (.bin .mul (.v 3) (.idx (.idx (.v 0) (.lit (.int 0))) (.v 4))) (.v 5)))
  .nil))
 (.cons (.ret (.v 3))
 .nil)))⟩
/-- 0 scenario, 1 questions, 2 row -/
def F_row_index (c_need_scenario : Nat) (c_need_questions : Nat) (c_need_row : Nat) (c_index_by : Nat) : Fn := ⟨3, 3, [],
 (.cons (.ex (.call c_need_scenario (.cons (.v 0) .nil)))
 (.cons (.ex (.call c_need_questions (.cons (.v 0) (.cons (.v 1) .nil))))
 (.cons (.ex (.call c_need_row (.cons (.v 0) (.cons (.v 1) (.cons (.v 2) .nil)))))
 (.cons (.ret (.call c_index_by (.cons (.v 0) (.cons (.v 1) (.cons (.v 2) .nil)))))
 .nil))))⟩
/-- 0 questions, 1 row, 2 part, 3 answers, 4 question -/
def F_part_by : Fn := ⟨5, 3, [],
 (.cons (.asg 3 (.dzip (.v 0) (.v 1)))
 (.cons (.ret (.bi .tuple (.cons (.comp (.v 4) (.seq (.v 2)) .nil (.dget (.v 3) (.v 4))) .nil)))
 .nil))⟩
/-- 0 questions, 1 value, 2 one -/
def F_is_part (c_is_integer : Nat) (c_is_ascending : Nat) : Fn := ⟨3, 2, [],
 (.cons (.ite (.or (.not (.val (.isa .tuple (.v 1)))) (.cons (.not (.val (.bi .all (.cons (.comp (.v 2) (.seq (.v 1)) .nil (.and (.call c_is_integer (.cons (.v 2) .nil)) (.cons (.cmp .isin (.v 2) (.v 0)) .nil))) .nil)))) .nil))
  (.cons (.ret (.lit (.bl false)))
  .nil)
  .nil)
 (.cons (.ret (.call c_is_ascending (.cons (.v 1) .nil)))
 .nil))⟩
/-- 0 questions, 1 part -/
def F_need_part (c_is_part : Nat) : Fn := ⟨2, 2, [],
 (.cons (.ite (.not (.val (.call c_is_part (.cons (.v 0) (.cons (.v 1) .nil)))))
  (.cons .nev
  .nil)
  .nil)
 .nil)⟩
/-- 0 scenario, 1 questions, 2 row, 3 part -/
def F_part_of (c_need_scenario : Nat) (c_need_questions : Nat) (c_need_row : Nat) (c_need_part : Nat) (c_part_by : Nat) : Fn := ⟨4, 4, [],
 (.cons (.ex (.call c_need_scenario (.cons (.v 0) .nil)))
 (.cons (.ex (.call c_need_questions (.cons (.v 0) (.cons (.v 1) .nil))))
 (.cons (.ex (.call c_need_row (.cons (.v 0) (.cons (.v 1) (.cons (.v 2) .nil)))))
 (.cons (.ex (.call c_need_part (.cons (.v 1) (.cons (.v 3) .nil))))
 (.cons (.ret (.call c_part_by (.cons (.v 1) (.cons (.v 2) (.cons (.v 3) .nil)))))
 .nil)))))⟩
/-- 0 scenario, 1 first, 2 second, 3 question -/
def F_shared_by : Fn := ⟨4, 3, [],
 (.cons (.ret (.bi .tuple (.cons (.comp (.v 3) (.seq (.idx (.idx (.v 0) (.lit (.int 1))) (.v 1))) (.cons (.val (.cmp .isin (.v 3) (.idx (.idx (.v 0) (.lit (.int 1))) (.v 2)))) .nil) (.v 3)) .nil)))
 .nil)⟩
/-- 0 scenario, 1 first, 2 second -/
def F_shared_questions (c_need_scenario : Nat) (c_need_index : Nat) (c_shared_by : Nat) : Fn := ⟨3, 3, [],
 (.cons (.ex (.call c_need_scenario (.cons (.v 0) .nil)))
 (.cons (.ex (.call c_need_index (.cons (.v 0) (.cons (.v 1) .nil))))
 (.cons (.ex (.call c_need_index (.cons (.v 0) (.cons (.v 2) .nil))))
 (.cons (.ret (.call c_shared_by (.cons (.v 0) (.cons (.v 1) (.cons (.v 2) .nil)))))
 .nil))))⟩
/-- 0 _law_pot_here, 1 _law_asked, 2 _law_question -/
def F_law_some (c_law_take : Nat) : Fn := ⟨3, 2, [0],
 (.cons (.ret (.bi .tuple (.cons (.comp (.v 2) (.seq (.v 1)) (.cons (.val (.cmp .eq (.call c_law_take (.cons (.v 0) (.cons (.lit (.int 2)) .nil))) (.lit (.int 0)))) .nil) (.v 2)) .nil)))
 .nil)⟩
/-- 0 _law_pot_here, 1 _law_scenario_here, 2 _law_whole, 3 _law_both, 4 _law_asked, 5 _law_sizes_here, 6 _law_contexts, 7 _law_one, 8 _law_other, 9 _law_rows_here, 10 _law_at, 11 _law_some_here, 12 _law_due, 13 _law_question -/
def F_law_right (c_full_size : Nat) (c_law_rows : Nat) (c_law_take : Nat) (c_context_at : Nat) (c_shared_questions : Nat) (c_law_some : Nat) (c_rows_of : Nat) (c_row_index : Nat) (c_part_of : Nat) : Fn := ⟨14, 2, [0],
 (.cons (.unp [5, 6] (.v 1))
 (.cons (.asg 2 (.mk true (.rng (.cons (.bi .len (.cons (.v 5) .nil)) .nil))))
 (.cons (.ite (.val (.cmp .ne (.bi .repr (.cons (.call c_full_size (.cons (.v 1) .nil)) .nil)) (.bi .repr (.cons (.bi .len (.cons (.call c_law_rows (.cons (.v 5) (.cons (.v 2) .nil))) .nil)) .nil))))
  (.cons (.ret (.lit (.bl false)))
  .nil)
  .nil)
 (.cons (.unp [7, 8] (.tup (.cons (.call c_law_take (.cons (.v 0) (.cons (.bi .len (.cons (.v 6) .nil)) .nil))) (.cons (.call c_law_take (.cons (.v 0) (.cons (.bi .len (.cons (.v 6) .nil)) .nil))) .nil))))
 (.cons (.ite (.val (.cmp .ne (.bi .repr (.cons (.call c_context_at (.cons (.v 1) (.cons (.v 7) .nil))) .nil)) (.bi .repr (.cons (.idx (.v 6) (.v 7)) .nil))))
  (.cons (.ret (.lit (.bl false)))
  .nil)
  .nil)
 (.cons (.asg 3 (.bi .tuple (.cons (.comp (.v 13) (.seq (.idx (.v 6) (.v 7))) (.cons (.val (.cmp .isin (.v 13) (.idx (.v 6) (.v 8)))) .nil) (.v 13)) .nil)))
 (.cons (.ite (.val (.cmp .ne (.bi .repr (.cons (.call c_shared_questions (.cons (.v 1) (.cons (.v 7) (.cons (.v 8) .nil)))) .nil)) (.bi .repr (.cons (.v 3) .nil))))
  (.cons (.ret (.lit (.bl false)))
  .nil)
  .nil)
 (.cons (.for_ [0] (.v 4) (.seq (.lst (.cons (.call c_law_some (.cons (.v 0) (.cons (.v 2) .nil))) (.cons (.idx (.v 6) (.v 7)) (.cons (.tup .nil) .nil)))))
  (.cons (.asg 9 (.call c_law_rows (.cons (.v 5) (.cons (.v 4) .nil))))
  (.cons (.ite (.val (.cmp .ne (.bi .repr (.cons (.call c_rows_of (.cons (.v 1) (.cons (.v 4) .nil))) .nil)) (.bi .repr (.cons (.bi .tuple (.cons (.v 9) .nil)) .nil))))
   (.cons (.ret (.lit (.bl false)))
   .nil)
   .nil)
  (.cons (.for_ [0] (.v 10) (.seq (.lst (.cons (.lit (.int 0)) (.cons (.bin .sub (.bi .len (.cons (.v 9) .nil)) (.lit (.int 1))) (.cons (.call c_law_take (.cons (.v 0) (.cons (.bi .len (.cons (.v 9) .nil)) .nil))) (.cons (.call c_law_take (.cons (.v 0) (.cons (.bi .len (.cons (.v 9) .nil)) .nil))) .nil))))))
   (.cons (.asg 11 (.call c_law_some (.cons (.v 0) (.cons (.v 4) .nil))))
   (.cons (.asg 12 (.bi .tuple (.cons (.comp (.v 13) (.seq (.v 11)) .nil (.idx (.idx (.v 9) (.v 10)) (.ixof (.v 4) (.v 13)))) .nil)))
   (.cons (.ite (.val (.cmp .ne (.bi .repr (.cons (.call c_row_index (.cons (.v 1) (.cons (.v 4) (.cons (.idx (.v 9) (.v 10)) .nil)))) .nil)) (.bi .repr (.cons (.v 10) .nil))))
    (.cons (.ret (.lit (.bl false)))
    .nil)
    .nil)
   (.cons (.ite (.val (.cmp .ne (.bi .repr (.cons (.call c_part_of (.cons (.v 1) (.cons (.v 4) (.cons (.idx (.v 9) (.v 10)) (.cons (.v 11) .nil))))) .nil)) (.bi .repr (.cons (.v 12) .nil))))
    (.cons (.ret (.lit (.bl false)))
    .nil)
    .nil)
   .nil)))))
  .nil))))
 (.cons (.ret (.lit (.bl true)))
 .nil)))))))))⟩
/-- 0 _law_found, 1 _law_one, 2 _law_contexts, 3 _law_scenario_here, 4 _law_spot, 5 _law_both, 6 _law_question, 7 _law_other -/
def F_law_many_right (c_context_at : Nat) (c_shared_questions : Nat) : Fn := ⟨8, 0, [],
 (.cons (.asg 0 (.comp (.v 6) (.rng (.cons (.lit (.int 8)) .nil)) .nil (.tup (.cons (.v 6) .nil))))
 (.cons (.for_ [0] (.v 1) (.rng (.cons (.lit (.int 8)) .nil))
  (.cons (.ext 0 (.comp (.v 7) (.rng (.cons (.bin .add (.v 1) (.lit (.int 1))) (.cons (.lit (.int 8)) .nil))) .nil (.tup (.cons (.v 1) (.cons (.v 7) .nil)))))
  .nil))
 (.cons (.asg 2 (.bi .tuple (.cons (.bi .sorted (.cons (.sl (.v 0) .non (.som (.lit (.int 28)))) .nil)) .nil)))
 (.cons (.asg 3 (.tup (.cons (.bin .mul (.tup (.cons (.lit (.int 2)) .nil)) (.lit (.int 8))) (.cons (.v 2) .nil))))
 (.cons (.for_ [0] (.v 4) (.rng (.cons (.lit (.int 28)) .nil))
  (.cons (.asg 5 (.bi .tuple (.cons (.comp (.v 6) (.seq (.idx (.v 2) (.v 4))) (.cons (.val (.cmp .isin (.v 6) (.idx (.v 2) (.lit (.int 27))))) .nil) (.v 6)) .nil)))
  (.cons (.ite (.or (.val (.cmp .ne (.call c_context_at (.cons (.v 3) (.cons (.v 4) .nil))) (.idx (.v 2) (.v 4)))) (.cons (.val (.cmp .ne (.call c_shared_questions (.cons (.v 3) (.cons (.v 4) (.cons (.lit (.int 27)) .nil)))) (.v 5))) .nil))
   (.cons (.ret (.lit (.bl false)))
   .nil)
   .nil)
  .nil)))
 (.cons (.ret (.lit (.bl true)))
 .nil))))))⟩
end Hx

set_option Elab.async false
set_option linter.all false
set_option maxRecDepth 100000
set_option maxHeartbeats 4000000
/-! P1: the pot. -/
namespace Hx
open PySem
theorem ix30 : L2.ixN 3 0 = some 0 := rfl
theorem ix31 : L2.ixN 3 1 = some 1 := rfl
theorem ix32 : L2.ixN 3 2 = some 2 := rfl
theorem neg_i {i : Int} : negD (.int i) = some (-i) := rfl
theorem int_i {i : Int} : intD (.int i) = some i := rfl
theorem items_l {xs : List PyData} : itemsOf (.list xs) = some xs := rfl
theorem items_t {xs : List PyData} : itemsOf (.tuple xs) = some xs := rfl
theorem items_ll {xs : List PyData} : itemsL (.list xs) = some xs := rfl
theorem own_v {i : Nat} : (Tgt.v i).own = [i] := rfl
theorem own_tup {is : List Nat} : (Tgt.tup is).own = is := rfl
theorem wipe_nil {ρ : Env} : wipe ρ [] = ρ := rfl
theorem wipe_cons {ρ : Env} {i : Nat} {is : List Nat} : wipe ρ (i :: is) = (wipe ρ is).set i none := rfl
theorem bindT_v {i : Nat} {d : PyData} {ρ : Env} : bindT (.v i) d ρ = some (ρ.set i (some d)) := rfl
theorem bindT_tup {is : List Nat} {ds : List PyData} {ρ : Env} : bindT (.tup is) (.tuple ds) ρ = setAll is ds ρ := rfl
theorem setAll_nil {ρ : Env} : setAll [] [] ρ = some ρ := rfl
theorem setAll_cons {i : Nat} {is : List Nat} {d : PyData} {ds : List PyData} {ρ : Env} : setAll (i :: is) (d :: ds) ρ = setAll is ds (ρ.set i (some d)) := rfl
local macro_rules | `(tactic| walk_at "hx") => `(tactic| simp only [E_v, E_lit, E_con, E_edct, E_tup, E_lst, E_neg, E_bin, E_cmp, E_chain, E_isN, E_not, E_and, E_or, EAnd_nil, EAnd_cons, EOr_nil, EOr_cons, E_ite, E_call, E_callk, E_bi, E_mkt, E_mkl, E_isa, E_idx, E_sl, E_rev, E_ixof, E_dzip, E_dget, E_comp, E_comp2, E_dcomp2, E_pop, Es_nil, Es_cons, Et_val, Et_not, Et_and, Et_or, ECs_nil, ECs_cons, EDs_nil, EDs_cons, EO_non, EO_som, EI_seq, EI_rng, EI_zip, EI_enm,
  St_asg, St_unp, St_setix, St_aug, St_ex, St_app, St_ext, St_ret, St_if, St_for, St_pas, Ss_nil, Ss_cons, Lit.d, List.getElem?_cons_zero, List.getElem?_cons_succ, List.set_cons_zero, List.set_cons_succ, List.length_cons, List.length_nil, List.map_cons, List.map_nil, List.replicate_succ, List.replicate_zero, List.cons_append, List.nil_append, Option.some.injEq, exists_eq_left', exists_eq_left, PyData.int.injEq, PyData.list.injEq, PyData.tuple.injEq, PyData.bool.injEq, PyData.str.injEq,
  ifB_tt, ifB_ff, ifB_dec, ifB_not, op_add, op_sub, op_mul, op_mod, op_fdiv, op_pow, op_addt, op_addl, cm_lt, cm_le, cm_gt, cm_ge, cm_eq, cm_ne, b_bool, t_bool, bi_len_l, bi_len_t, bi_tuple_l, bi_tuple_t, bi_list_l, bi_list_t, bi_int_i, bi_int_b, bi_absI, ix_list, ix_tuple, at_0, at_1, at_2, at_3, Bool.not_true, Bool.not_false, Nat.reduceSub, Nat.reduceAdd, neg_i, int_i, items_l, items_t, items_ll, exists_const, exists_and_left, ix30, ix31, ix32, own_v, own_tup, wipe_nil, wipe_cons, bindT_v, bindT_tup, setAll_nil, setAll_cons, true_and, and_true])
theorem lg_of {x : Int} {k : Nat} (hk : 0 < k) (h : x.natAbs < 2 ^ k) : x.natAbs.log2 < k := by
  by_cases hx : x.natAbs = 0
  · rw [hx]
    simpa using hk
  · exact (Nat.log2_lt hx).mpr h
/-- below 2^200 -/
def Small (x : Int) : Prop := 0 ≤ x ∧ x < 2 ^ 200
theorem Small.lg {x : Int} (h : Small x) : x.natAbs.log2 < 200 := lg_of (by decide) (by have := h.1; have := h.2; omega)
theorem Small.pw3 {x : Int} (h : Small x) : 0 ≤ (3 : Int) ∧ (3 : Int) ≤ 1000 ∧ x.natAbs.log2 < 10000 := ⟨by decide, by decide, by have := h.lg; omega⟩
theorem Small.pw5 {x : Int} (h : Small x) : 0 ≤ (5 : Int) ∧ (5 : Int) ≤ 1000 ∧ x.natAbs.log2 < 10000 := ⟨by decide, by decide, by have := h.lg; omega⟩
theorem bits_of {x y : Int} (hx : Small x) (hy : Small y) : bitsOk x y = true := by
  unfold bitsOk
  have := hx.lg
  have := hy.lg
  simp only [decide_eq_true_eq]
  omega
/-- a pot; at most B numbers were drawn of its counter -/
structure Pot (B : Nat) (d : PyData) : Prop where
  ex : ∃ a b c : Int, d = .list [.int a, .int b, .int c] ∧ 0 ≤ a ∧ 0 ≤ b ∧ b < 2305843009213693951 ∧ 0 ≤ c ∧ c ≤ B
theorem Pot.mono {B C : Nat} {d : PyData} (h : Pot B d) (k : B ≤ C) : Pot C d := by
  obtain ⟨a, b, c, e, h1, h2, h3, h4, h5⟩ := h.ex
  exact ⟨a, b, c, e, h1, h2, h3, h4, by omega⟩
abbrev potLim : Nat := 1152921504606846976
def TakeP (B : Nat) (n : Int) (d : PyData) (o : List PyData) : Prop := ∃ r d', d = .int r ∧ o = [d'] ∧ 0 ≤ r ∧ r < n ∧ Pot (B + 1) d'
theorem take_ok {Γ : List Callee} {B : Nat} {d : PyData} {n : Int} (hp : Pot B d) (hB : B ≤ potLim) (h0 : 0 < n) (hn : n < 2 ^ 8000) : T (fun p => TakeP B n p.1 p.2) (F_law_take.mng Γ [d, .int n]) := by
  obtain ⟨a, b, c, rfl, h1, h2, h3, h4, h5⟩ := hp.ex
  have hB' : B ≤ 1152921504606846976 := hB
  refine (mng_T (P := TakeP B n) rfl).mpr ?_
  unfold F_law_take
  walk_at "hx"
  constructor
  · intro ha
    refine ⟨h0, ⟨h0, lg_of (by decide) (by omega)⟩, rfl, _, _, rfl, rfl, Int.emod_nonneg _ (by omega), Int.emod_lt_of_pos _ h0, ?_⟩
    exact ⟨_, _, _, rfl, Int.ediv_nonneg h1 (by omega), h2, h3, h4, by omega⟩
  · intro ha
    have hc : Small (c + 1) := ⟨by omega, by omega⟩
    have hx : Small (b + 86028157 * (c + 1)) := ⟨by omega, by omega⟩
    have hy : Small ((b + 86028157 * (c + 1)) ^ Int.toNat 3 % 2305843009213693907 + b % 1000003 + 31 * (c + 1)) := ⟨by omega, by omega⟩
    refine ⟨bits_of ⟨by decide, by decide⟩ hc, hx.pw3, by decide, by decide, bits_of ⟨by decide, by decide⟩ hc, hy.pw5, by decide, ⟨by decide, by decide⟩, h0, rfl, ?_⟩
    exact ⟨_, _, rfl, rfl, Int.emod_nonneg _ (by omega), Int.emod_lt_of_pos _ h0, ⟨_, _, _, rfl, h1, h2, h3, by omega, by omega⟩⟩
/-! ### the pot's start -/
theorem pot_end {x : Int} {k : Nat} (hk : k ≤ 1000000) (h0 : 0 ≤ x) (h1 : x < 2 ^ 2800) {kk : Bool} {r : List (Option PyData)} : bitsOk 104729 k = true ∧ (0 ≤ (3 : Int) ∧ (3 : Int) ≤ 1000 ∧ (x % 2305843009213693921 + 104729 * k + 1).natAbs.log2 < 10000) ∧ bitsOk x (if kk = true then 1 else 0) = true ∧
    Pot 0 (.list [.int (x * (if kk = true then 1 else 0)), .int ((x % 2305843009213693921 + 104729 * k + 1) ^ Int.toNat 3 % 2305843009213693951), .int 0]) := by
  have e1 : Small (k : Int) := ⟨by omega, by omega⟩
  have e2 : Small (x % 2305843009213693921 + 104729 * k + 1) := ⟨by omega, by omega⟩
  refine ⟨bits_of ⟨by decide, by decide⟩ e1, e2.pw3, ?_, ⟨_, _, _, rfl, ?_, by omega, by omega, by decide, by decide⟩⟩
  · have := lg_of (x := x) (k := 2800) (by decide) (by omega)
    unfold bitsOk
    cases kk <;> simp only [decide_eq_true_eq, if_true, Bool.false_eq_true, if_false]
    · have : (0 : Int).natAbs.log2 = 0 := rfl
      omega
    · have : (1 : Int).natAbs.log2 = 0 := rfl
      omega
  · cases kk <;> simp only [if_true, Bool.false_eq_true, if_false] <;> omega
theorem ten840 : (10 : Int) ^ Int.toNat 60 = 1000000000000000000000000000000000000000000000000000000000000 := by decide
theorem ten_pw : ((10 : Int) ^ Int.toNat 60).natAbs.log2 < 10000 := by rw [ten840]; exact lg_of (by decide) (by decide)
theorem ten_lt : ((10 : Int) ^ Int.toNat 60) ^ Int.toNat 14 < 2 ^ 2800 := by rw [ten840]; decide
theorem ten_pos : 0 < ((10 : Int) ^ Int.toNat 60) ^ Int.toNat 14 := by rw [ten840]; decide
theorem pot_ok {Γ : List Callee} {ns : List Int} {k : Nat} (hk : k ≤ 1000000) : T (fun p => Pot 0 p.1) (F_law_pot.mng Γ [.list (ns.map .int), .int k]) := by
  refine (mng_T (P := fun d o => Pot 0 d) rfl).mpr ?_
  unfold F_law_pot
  walk_at "hx"
  simp only [List.length_map, at_nat, List.getElem?_map]
  constructor
  · intro h
    have h' : k < ns.length := by omega
    rw [List.getElem?_eq_getElem h']
    refine ⟨_, rfl, ?_⟩
    walk_at "hx"
    generalize hz : (if ns[k] < 0 then -ns[k] else ns[k]) % (10 ^ Int.toNat 60) ^ Int.toNat 14 = z
    have z0 : 0 ≤ z := by rw [← hz]; exact Int.emod_nonneg _ (by have := ten_pos; omega)
    have z1 : z < 2 ^ 2800 := by rw [← hz]; exact Int.lt_trans (Int.emod_lt_of_pos _ ten_pos) ten_lt
    obtain ⟨q1, q2, q3, q4⟩ := pot_end (kk := decide (10 ^ Int.toNat 18 ≤ z)) (r := []) hk z0 z1
    exact ⟨⟨by decide, by decide, by decide⟩, ⟨by decide, by decide, ten_pw⟩, ten_pos, by decide, q1, q2, by decide, ⟨by decide, by decide, by decide⟩, q3, rfl, q4⟩
  · intro h
    obtain ⟨q1, q2, q3, q4⟩ := pot_end (x := 0) (kk := decide (10 ^ Int.toNat 18 ≤ 0)) (r := []) hk (by decide) (by decide)
    exact ⟨by decide, q1, q2, by decide, ⟨by decide, by decide, by decide⟩, q3, rfl, q4⟩
end Hx

set_option Elab.async false
set_option linter.all false
set_option maxRecDepth 100000
set_option maxHeartbeats 4000000
/-! P2: loops, comprehensions, calls. -/
namespace Hx
open PySem
section
variable {Γ : List Callee} {ρ : Env} {P : PyData → Env → Prop} {N : Env → Prop} {R : PyData → Env → Prop}
theorem loop_T {t : Tgt} {b : ISs} (I : Nat → Env → Prop) {xs : List PyData} (h0 : I 0 ρ) (hs : ∀ i x ρ, xs[i]? = some x → I i ρ → ∃ ρ2, bindT t x ρ = some ρ2 ∧ Ss Γ b ρ2 (fun ρ3 => I (i + 1) ρ3) R) (hN : ∀ ρ, I xs.length ρ → N ρ) : loopX Γ t b xs ρ N R := by
  have go : ∀ (ys : List PyData) (i : Nat) (ρ : Env), ys = xs.drop i → i ≤ xs.length → I i ρ → T (flowP N R) (loopF (forF Γ t b) ys ρ) := by
    intro ys
    induction ys with
    | nil =>
      intro i ρ e hi h
      have : i = xs.length := by
        have := congrArg List.length e
        rw [List.length_nil, List.length_drop] at this
        omega
      subst this
      exact ⟨_, rfl, hN ρ h⟩
    | cons y ys ih =>
      intro i ρ e hi h
      have hlt : i < xs.length := by
        have := congrArg List.length e
        rw [List.length_cons, List.length_drop] at this
        omega
      rw [List.drop_eq_getElem_cons hlt] at e
      injection e with e1 e2
      subst e1
      obtain ⟨ρ2, e3, hb⟩ := hs i xs[i] ρ (List.getElem?_eq_getElem hlt) h
      show T _ ((forF Γ t b xs[i] ρ).bnd _)
      unfold forF
      rw [e3, T_bnd]
      refine hb.mono fun fl hf => ?_
      cases fl with
      | nx ρ3 => exact ih (i + 1) ρ3 e2 hlt hf
      | rt d ρ3 => exact ⟨_, rfl, hf⟩
  exact go xs 0 ρ rfl (Nat.zero_le _) h0
theorem comp_S {t : Tgt} {cs : ICs} {e : IE} (I : Nat → List PyData → Env → Prop) {xs : List PyData} (h0 : I 0 [] ρ)
    (hs : ∀ i x acc ρ', xs[i]? = some x → I i acc ρ' → ∃ ρ2, bindT t x (wipe ρ' t.own) = some ρ2 ∧ ECs Γ cs ρ2 fun k ρ3 => (k = true → E Γ e ρ3 fun d ρ4 => I (i + 1) (acc ++ [d]) ρ4) ∧ (k = false → I (i + 1) acc ρ3))
    (hP : ∀ acc ρ', I xs.length acc ρ' → acc.length ≤ lim ∧ P (.list acc) (back ρ ρ' t.own)) : compX Γ t cs e xs ρ P := by
  have go : ∀ (ys : List PyData) (i : Nat) (acc : List PyData) (ρ' : Env), ys = xs.drop i → i ≤ xs.length → I i acc ρ' → T (fun q => I xs.length (acc ++ q.1) q.2) (turns (cF Γ t cs e) ys ρ') := by
    intro ys
    induction ys with
    | nil =>
      intro i acc ρ' e hi h
      have : i = xs.length := by
        have := congrArg List.length e
        rw [List.length_nil, List.length_drop] at this
        omega
      subst this
      refine ⟨_, rfl, ?_⟩
      show I xs.length (acc ++ []) ρ'
      rw [List.append_nil]
      exact h
    | cons y ys ih =>
      intro i acc ρ' e' hi h
      have hlt : i < xs.length := by
        have := congrArg List.length e'
        rw [List.length_cons, List.length_drop] at this
        omega
      rw [List.drop_eq_getElem_cons hlt] at e'
      injection e' with e1 e2
      subst e1
      obtain ⟨ρ2, e3, hb⟩ := hs i xs[i] acc ρ' (List.getElem?_eq_getElem hlt) h
      show T _ ((cF Γ t cs e xs[i] ρ').bnd fun p => (turns (cF Γ t cs e) ys p.2).bnd fun q => .ok (p.1 ++ q.1, q.2))
      rw [T_bnd]
      unfold cF
      rw [e3, T_bnd, T_some, T_bnd]
      refine hb.mono fun p hp => ?_
      cases hk : p.1 with
      | true =>
        rw [if_pos rfl, T_bnd]
        refine (hp.1 hk).mono fun q hq => ?_
        rw [T_ok, T_bnd]
        refine (ih (i + 1) _ _ e2 hlt hq).mono fun r hr => ?_
        rw [T_ok]
        rw [List.append_assoc] at hr
        exact hr
      | false =>
        rw [if_neg (by decide), T_ok, T_bnd]
        refine (ih (i + 1) _ _ e2 hlt (hp.2 hk)).mono fun r hr => ?_
        rw [T_ok]
        exact hr
  refine (go xs 0 [] ρ rfl (Nat.zero_le _) h0).mono fun q hq => ?_
  exact hP _ _ hq
/-! ### slots of their own -/
theorem wipe_get {is : List Nat} {j : Nat} (h : j ∉ is) : (wipe ρ is)[j]? = ρ[j]? := wipe_out' h
theorem setAll_out : ∀ {is : List Nat} {ds : List PyData} {ρ ρ2 : Env} {j : Nat}, setAll is ds ρ = some ρ2 → j ∉ is → ρ2[j]? = ρ[j]?
  | [], [], ρ, ρ2, j, h, _ => by
    have h' : some ρ = some ρ2 := h
    cases h'
    rfl
  | i :: is, d :: ds, ρ, ρ2, j, h, hj => by
    have h' : setAll is ds (ρ.set i (some d)) = some ρ2 := h
    rw [setAll_out h' fun z => hj (List.mem_cons_of_mem _ z), List.getElem?_set_ne fun z => hj (by rw [z]; exact List.mem_cons_self)]
  | [], _ :: _, ρ, ρ2, j, h, _ => by cases (show (none : Option Env) = some ρ2 from h)
  | _ :: _, [], ρ, ρ2, j, h, _ => by cases (show (none : Option Env) = some ρ2 from h)
theorem setAll_length : ∀ {is : List Nat} {ds : List PyData} {ρ ρ2 : Env}, setAll is ds ρ = some ρ2 → ρ2.length = ρ.length
  | [], [], ρ, ρ2, h => by
    have h' : some ρ = some ρ2 := h
    cases h'
    rfl
  | i :: is, d :: ds, ρ, ρ2, h => by
    have h' : setAll is ds (ρ.set i (some d)) = some ρ2 := h
    rw [setAll_length h', List.length_set]
  | [], _ :: _, ρ, ρ2, h => by cases (show (none : Option Env) = some ρ2 from h)
  | _ :: _, [], ρ, ρ2, h => by cases (show (none : Option Env) = some ρ2 from h)
theorem bindT_out {t : Tgt} {x : PyData} {ρ2 : Env} {j : Nat} (h : bindT t x ρ = some ρ2) (hj : j ∉ t.own) : ρ2[j]? = ρ[j]? := by
  cases t with
  | v i =>
    have h' : some (ρ.set i (some x)) = some ρ2 := h
    cases h'
    exact List.getElem?_set_ne fun z => hj (by rw [z]; exact List.mem_cons_self)
  | tup is =>
    cases x with
    | tuple ds => exact setAll_out (show setAll is ds ρ = some ρ2 from h) hj
    | _ => cases (show (none : Option Env) = some ρ2 from h)
theorem bindT_length {t : Tgt} {x : PyData} {ρ2 : Env} (h : bindT t x ρ = some ρ2) : ρ2.length = ρ.length := by
  cases t with
  | v i =>
    have h' : some (ρ.set i (some x)) = some ρ2 := h
    cases h'
    exact List.length_set
  | tup is =>
    cases x with
    | tuple ds => exact setAll_length (show setAll is ds ρ = some ρ2 from h)
    | _ => cases (show (none : Option Env) = some ρ2 from h)
/-- ρ' is ρ but for the slots is -/
def Like (is : List Nat) (ρ ρ' : Env) : Prop := ρ'.length = ρ.length ∧ ∀ j, j ∉ is → ρ'[j]? = ρ[j]?
theorem Like.refl {is : List Nat} : Like is ρ ρ := ⟨rfl, fun _ _ => rfl⟩
theorem Like.bind {t : Tgt} {is : List Nat} {x : PyData} {ρ' ρ2 : Env} (h : Like is ρ ρ') (k : bindT t x (wipe ρ' is) = some ρ2) (hs : ∀ i ∈ t.own, i ∈ is) : Like is ρ ρ2 :=
  ⟨by rw [bindT_length k, wipe_len, h.1], fun j hj => by rw [bindT_out k fun z => hj (hs j z), wipe_get hj, h.2 j hj]⟩
theorem Like.back {is : List Nat} {ρ' : Env} (h : Like is ρ ρ') : back ρ ρ' is = ρ := by
  refine List.ext_getElem? fun j => ?_
  by_cases hj : j ∈ is
  · exact back_in h.1.symm hj
  · rw [back_out hj, h.2 j hj]
theorem Like.wipe {is : List Nat} {ρ' : Env} (h : Like is ρ ρ') : wipe ρ' is = wipe ρ is := by
  refine List.ext_getElem? fun j => ?_
  by_cases hj : j ∈ is
  · have inn : ∀ (τ : Env) (is : List Nat), j ∈ is → (Hx.wipe τ is)[j]? = if j < τ.length then some none else none := fun τ is => by
      induction is with
      | nil => intro h; cases h
      | cons a is ih =>
        intro h
        show ((Hx.wipe τ is).set a none)[j]? = _
        by_cases ha : a = j
        · subst ha
          by_cases hl : a < τ.length
          · rw [if_pos hl, List.getElem?_set_self (by rw [wipe_len]; exact hl)]
          · rw [if_neg hl, List.getElem?_eq_none (by rw [List.length_set, wipe_len]; omega)]
        · rw [List.getElem?_set_ne ha]
          exact ih ((List.mem_cons.mp h).resolve_left fun z => ha z.symm)
    rw [inn _ _ hj, inn _ _ hj, h.1]
  · rw [wipe_get hj, wipe_get hj, h.2 j hj]
/-- a comprehension that changes nothing -/
theorem comp_T {t : Tgt} {cs : ICs} {e : IE} (p : PyData → Bool) (g : PyData → PyData) {xs : List PyData} (hs : ∀ x ∈ xs, ∃ ρ2, bindT t x (wipe ρ t.own) = some ρ2 ∧ ECs Γ cs ρ2 fun k ρ3 => k = p x ∧ ρ3 = ρ2 ∧ (k = true → E Γ e ρ2 fun d ρ4 => d = g x ∧ ρ4 = ρ2))
    (hl : xs.length ≤ lim) (hP : P (.list ((xs.filter p).map g)) ρ) : compX Γ t cs e xs ρ P := by
  refine comp_S (I := fun i acc ρ' => acc = ((xs.take i).filter p).map g ∧ Like t.own ρ ρ') ⟨rfl, Like.refl⟩ ?_ ?_
  · rintro i x acc ρ' hx ⟨rfl, lk⟩
    obtain ⟨ρ2, e1, h1⟩ := hs x (List.mem_of_getElem? hx)
    have e1' : bindT t x (wipe ρ' t.own) = some ρ2 := by rw [lk.wipe]; exact e1
    refine ⟨ρ2, e1', h1.mono fun q hq => ?_⟩
    obtain ⟨k1, k2, k3⟩ := hq
    have lk2 : Like t.own ρ ρ2 := lk.bind e1' fun i hi => hi
    have hi : i < xs.length := (List.getElem?_eq_some_iff.mp hx).1
    have tk : xs.take (i + 1) = xs.take i ++ [x] := by
      rw [List.take_succ, hx]
      rfl
    constructor
    · intro hk
      have h2 := k3 hk
      rw [k2]
      refine h2.mono fun r hr => ⟨?_, ?_⟩
      · rw [tk, List.filter_append, List.map_append, hr.1]
        rw [k1] at hk
        rw [List.filter_cons, if_pos hk]
        rfl
      · rw [hr.2]
        exact lk2
    · intro hk
      refine ⟨?_, by rw [k2]; exact lk2⟩
      rw [tk, List.filter_append, List.map_append]
      rw [k1] at hk
      rw [List.filter_cons, if_neg (by rw [hk]; decide)]
      simp
  · rintro acc ρ' ⟨rfl, lk⟩
    rw [List.take_length]
    refine ⟨?_, by rw [lk.back]; exact hP⟩
    rw [List.length_map]
    exact Nat.le_trans (List.length_filter_le _ _) hl
/-- .. without tests -/
theorem comp_M {t : Tgt} {e : IE} (g : PyData → PyData) {xs : List PyData} (hs : ∀ x ∈ xs, ∃ ρ2, bindT t x (wipe ρ t.own) = some ρ2 ∧ E Γ e ρ2 fun d ρ4 => d = g x ∧ ρ4 = ρ2)
    (hl : xs.length ≤ lim) (hP : P (.list (xs.map g)) ρ) : compX Γ t .nil e xs ρ P := by
  refine comp_T (fun _ => true) g (fun x hx => ?_) hl (by rw [List.filter_eq_self.mpr fun _ _ => rfl]; exact hP)
  obtain ⟨ρ2, e1, h1⟩ := hs x hx
  exact ⟨ρ2, e1, ⟨_, rfl, rfl, rfl, fun _ => h1⟩⟩
/-! ### calls -/
theorem call_0 {f : Nat} {es : IEs} {ds : List PyData} {m : Mng} (hg : Γ[f]? = some ⟨[], m⟩) (h : T (fun p => P p.1 ρ) (m ds)) : callX Γ f es ds ρ P := by
  refine ⟨_, hg, h.mono fun p hp => ?_⟩
  exact hp
theorem call_K {f : Nat} {ds : List PyData} {m : Mng} (hg : Γ[f]? = some ⟨[], m⟩) (h : T (fun p => P p.1 ρ) (m ds)) : callKX Γ f ds ρ P := ⟨_, hg, rfl, h⟩
theorem call_1 {f i : Nat} {es : IEs} {ds : List PyData} {d0 : PyData} {m : Mng} (hg : Γ[f]? = some ⟨[0], m⟩) (he : argV es 0 = some i) (hd : ρ[i]? = some (some d0)) (h : T (fun p => ∃ d', p.2 = [d'] ∧ P p.1 (ρ.set i (some d'))) (m (d0 :: ds))) : callX Γ f es (d0 :: ds) ρ P := by
  refine ⟨_, hg, ?_⟩
  have e1 : refArgs [0] es = [i] := by
    unfold refArgs
    rw [List.filterMap_cons, he]
    rfl
  have e2 : patch [0] es (d0 :: ds) ρ = d0 :: ds := by
    unfold patch
    rw [he]
    dsimp only
    unfold patch
    rw [hd]
    rfl
  show T (fun p => P p.1 (setOut (refArgs [0] es) p.2 ρ)) (m (patch [0] es (d0 :: ds) ρ))
  rw [e1, e2]
  refine h.mono fun p hp => ?_
  obtain ⟨d', e3, h'⟩ := hp
  rw [e3]
  exact h'
end
end Hx

set_option Elab.async false
set_option linter.all false
set_option maxRecDepth 100000
set_option maxHeartbeats 4000000
/-! P2b: slices, all, any, sum, order. -/
namespace Hx
open PySem
section
variable {xs ys : List PyData} {P : PyData → Prop}
theorem cut_from {k : Nat} {xs : List PyData} : cutL xs (some (k : Int)) none = xs.drop k := by
  unfold cutL
  have e : HT.sIx xs.length 0 (some (k : Int)) = min k xs.length := by
    unfold HT.sIx
    simp
    try omega
  have e2 : HT.sIx xs.length xs.length none = xs.length := rfl
  rw [e, e2]
  by_cases h : k ≤ xs.length
  · rw [Nat.min_eq_left h]
    exact List.take_of_length_le (by rw [List.length_drop]; omega)
  · rw [Nat.min_eq_right (by omega), List.drop_of_length_le (Nat.le_refl _), List.drop_of_length_le (by omega)]
    simp
theorem cut_to {k : Nat} {xs : List PyData} : cutL xs none (some (k : Int)) = xs.take k := by
  unfold cutL
  have e : HT.sIx xs.length xs.length (some (k : Int)) = min k xs.length := by
    unfold HT.sIx
    simp
    try omega
  have e2 : HT.sIx xs.length 0 none = 0 := rfl
  rw [e, e2, List.drop_zero, Nat.sub_zero]
  by_cases h : k ≤ xs.length
  · rw [Nat.min_eq_left h]
  · rw [Nat.min_eq_right (by omega), List.take_of_length_le (Nat.le_refl _), List.take_of_length_le (by omega)]
theorem bools_map {α : Type} {f : α → Bool} {g : α → PyData} : ∀ {l : List α}, (∀ x ∈ l, g x = .bool (f x)) → boolsOf (l.map g) = some (l.map f)
  | [], _ => rfl
  | x :: l, h => by
    rw [List.map_cons, h x List.mem_cons_self]
    show (boolsOf (l.map g)).map _ = _
    rw [bools_map fun y hy => h y (List.mem_cons_of_mem _ hy)]
    rfl
theorem ints_map {α : Type} {f : α → Int} {g : α → PyData} : ∀ {l : List α}, (∀ x ∈ l, g x = .int (f x)) → intsOf (l.map g) = some (l.map f)
  | [], _ => rfl
  | x :: l, h => by
    rw [List.map_cons, h x List.mem_cons_self]
    show (intsOf (l.map g)).map _ = _
    rw [ints_map fun y hy => h y (List.mem_cons_of_mem _ hy)]
    rfl
theorem k_all {α : Type} {f : α → Bool} {g : α → PyData} {l : List α} (h : ∀ x ∈ l, g x = .bool (f x)) : biX .all [.list (l.map g)] P ↔ P (.bool (l.all f)) := by
  have e : biD .all [.list (l.map g)] = some (.bool ((l.map f).all id)) := by
    show (boolsOf (l.map g)).map _ = _
    rw [bools_map h]
    rfl
  have e2 : (l.map f).all id = l.all f := by rw [List.all_map]; rfl
  unfold biX
  rw [e, e2]
  simp
theorem k_any {α : Type} {f : α → Bool} {g : α → PyData} {l : List α} (h : ∀ x ∈ l, g x = .bool (f x)) : biX .any [.list (l.map g)] P ↔ P (.bool (l.any f)) := by
  have e : biD .any [.list (l.map g)] = some (.bool ((l.map f).any id)) := by
    show (boolsOf (l.map g)).map _ = _
    rw [bools_map h]
    rfl
  have e2 : (l.map f).any id = l.any f := by rw [List.any_map]; rfl
  unfold biX
  rw [e, e2]
  simp
theorem k_sum_l {α : Type} {f : α → Int} {g : α → PyData} {l : List α} (h : ∀ x ∈ l, g x = .int (f x)) : biX .sum [.list (l.map g)] P ↔ P (.int (l.map f).sum) := by
  have e : biD .sum [.list (l.map g)] = some (.int (l.map f).sum) := by
    show (intsOf (l.map g)).map _ = _
    rw [ints_map h]
    rfl
  unfold biX
  rw [e]
  simp
theorem k_sum_t {α : Type} {f : α → Int} {g : α → PyData} {l : List α} (h : ∀ x ∈ l, g x = .int (f x)) : biX .sum [.tuple (l.map g)] P ↔ P (.int (l.map f).sum) := by
  have e : biD .sum [.tuple (l.map g)] = some (.int (l.map f).sum) := by
    show (intsOf (l.map g)).map _ = _
    rw [ints_map h]
    rfl
  unfold biX
  rw [e]
  simp
/-! ### order -/
def ltV (x y : PyData) : Bool := (cmpD .lt x y).getD false
/-- each is below the next -/
def asc : List PyData → Bool
  | x :: y :: r => ltV x y && asc (y :: r)
  | _ => true
/-- neighbours can be compared -/
def ascOk : List PyData → Prop
  | x :: y :: r => (cmpD .lt x y).isSome = true ∧ ascOk (y :: r)
  | _ => True
def ltP : PyData → Bool
  | .tuple [x, y] => ltV x y
  | _ => true
theorem asc_zip : ∀ xs : List PyData, (zip2 xs (xs.drop 1)).all ltP = asc xs
  | [] => rfl
  | [x] => rfl
  | x :: y :: r => by
    show (zip2 (x :: y :: r) (y :: r)).all ltP = _
    have e : zip2 (x :: y :: r) (y :: r) = .tuple [x, y] :: zip2 (y :: r) r := rfl
    rw [e, List.all_cons]
    have := asc_zip (y :: r)
    show (ltV x y && (zip2 (y :: r) r).all ltP) = (ltV x y && asc (y :: r))
    rw [← this]
    rfl
theorem ascOk_zip : ∀ {xs : List PyData}, ascOk xs → ∀ p ∈ zip2 xs (xs.drop 1), ∃ x y, p = .tuple [x, y] ∧ cmpD .lt x y = some (ltV x y)
  | [], _, p, h => by cases h
  | [x], _, p, h => by cases h
  | x :: y :: r, ok, p, h => by
    have h' : p ∈ .tuple [x, y] :: zip2 (y :: r) r := h
    rcases List.mem_cons.mp h' with e | h'
    · refine ⟨x, y, e, ?_⟩
      unfold ltV
      cases q : cmpD .lt x y with
      | none => have := ok.1; rw [q] at this; cases this
      | some b => rfl
    · exact ascOk_zip ok.2 p h'
theorem ltV_int {a b : Int} : ltV (.int a) (.int b) = decide (a < b) := rfl
end
end Hx

set_option Elab.async false
set_option linter.all false
set_option maxRecDepth 100000
set_option maxHeartbeats 4000000
/-! P3: the program's looks at scenarios. -/
namespace Hx
open PySem
local macro_rules | `(tactic| walk_at "hx") => `(tactic| simp only [E_v, E_lit, E_con, E_edct, E_tup, E_lst, E_neg, E_bin, E_cmp, E_chain, E_isN, E_not, E_and, E_or, EAnd_nil, EAnd_cons, EOr_nil, EOr_cons, E_ite, E_call, E_callk, E_bi, E_mkt, E_mkl, E_isa, E_idx, E_sl, E_rev, E_ixof, E_dzip, E_dget, E_comp, E_comp2, E_dcomp2, E_pop, Es_nil, Es_cons, Et_val, Et_not, Et_and, Et_or, ECs_nil, ECs_cons, EDs_nil, EDs_cons, EO_non, EO_som, EI_seq, EI_rng, EI_zip, EI_enm,
  St_asg, St_unp, St_setix, St_aug, St_ex, St_app, St_ext, St_ret, St_if, St_for, St_pas, Ss_nil, Ss_cons, Lit.d, List.getElem?_cons_zero, List.getElem?_cons_succ, List.set_cons_zero, List.set_cons_succ, List.length_cons, List.length_nil, List.map_cons, List.map_nil, List.replicate_succ, List.replicate_zero, List.cons_append, List.nil_append, Option.some.injEq, exists_eq_left', exists_eq_left, PyData.int.injEq, PyData.list.injEq, PyData.tuple.injEq, PyData.bool.injEq, PyData.str.injEq,
  ifB_tt, ifB_ff, ifB_dec, ifB_not, op_add, op_sub, op_mul, op_mod, op_fdiv, op_pow, op_addt, op_addl, cm_lt, cm_le, cm_gt, cm_ge, cm_eq, cm_ne, b_bool, t_bool, bi_len_l, bi_len_t, bi_tuple_l, bi_tuple_t, bi_list_l, bi_list_t, bi_int_i, bi_int_b, bi_absI, ix_list, ix_tuple, at_0, at_1, at_2, at_3, Bool.not_true, Bool.not_false, Nat.reduceSub, Nat.reduceAdd, neg_i, int_i, items_l, items_t, items_ll, exists_const, exists_and_left, ix30, ix31, ix32, own_v, own_tup, wipe_nil, wipe_cons, bindT_v, bindT_tup, setAll_nil, setAll_cons, true_and, and_true])
/-! ### plain looks -/
def isInt : PyData → Bool
  | .int _ => true
  | _ => false
def isBet (lo hi : Int) : PyData → Bool
  | .int i => decide (lo ≤ i) && decide (i ≤ hi)
  | _ => false
def PureB (m : Mng) (ds : List PyData) (k : Bool) : Prop := T (fun p => p.1 = .bool k) (m ds)
def IntegerS (m : Mng) : Prop := ∀ x, T (fun p => p.1 = .bool (isInt x)) (m [x])
theorem integer_s {Γ : List Callee} : IntegerS (F_is_integer.mng Γ) := by
  intro x
  refine (mng_T (P := fun d o => d = .bool (isInt x)) rfl).mpr ?_
  unfold F_is_integer
  walk_at "hx"
  cases x <;> simp [ifB, isaD, isInt, endP, outs]
def BetweenS (m : Mng) : Prop := ∀ x lo hi, T (fun p => p.1 = .bool (isBet lo hi x)) (m [x, .int lo, .int hi])
theorem between_s {Γ : List Callee} {c : Nat} {m : Mng} (hg : Γ[c]? = some ⟨[], m⟩) (hm : IntegerS m) : BetweenS ((F_is_between c).mng Γ) := by
  intro x lo hi
  refine (mng_T (P := fun d o => d = .bool (isBet lo hi x)) rfl).mpr ?_
  unfold F_is_between
  walk_at "hx"
  refine call_0 hg ((hm x).mono fun p hp => ?_)
  rw [hp]
  walk_at "hx"
  cases x with
  | int i =>
    refine ⟨fun _ => ?_, fun h => (by cases h)⟩
    walk_at "hx"
    by_cases h1 : lo ≤ i <;> by_cases h2 : i ≤ hi <;> simp [h1, h2, endP, isBet, outs]
  | _ => exact ⟨fun h => (by cases h), fun _ => ⟨rfl, rfl⟩⟩
/-! ### ascending -/
theorem sl_from {k : Nat} {xs : List PyData} {P : PyData → Prop} : slX (.tuple xs) (some (k : Int)) none P ↔ P (.tuple (xs.drop k)) := by
  have e : sliceD (.tuple xs) (some (k : Int)) none = some (.tuple (xs.drop k)) := by rw [← cut_from]; rfl
  unfold slX
  rw [e]
  simp
theorem sl_to {k : Nat} {xs : List PyData} {P : PyData → Prop} : slX (.tuple xs) none (some (k : Int)) P ↔ P (.tuple (xs.take k)) := by
  have e : sliceD (.tuple xs) none (some (k : Int)) = some (.tuple (xs.take k)) := by rw [← cut_to]; rfl
  unfold slX
  rw [e]
  simp
theorem sl_1 {xs : List PyData} {P : PyData → Prop} : slX (.tuple xs) (some 1) none P ↔ P (.tuple (xs.drop 1)) := sl_from (k := 1)
theorem zip_tt {xs ys : List PyData} : zipD [.tuple xs, .tuple ys] = some (zip2 xs ys) := rfl
/-- [x < y for x, y in zip(xs, xs[1:])], in any slots -/
theorem asc_comp {Γ : List Callee} {ρ : Env} {i j : Nat} {xs : List PyData} {P : PyData → Env → Prop} (hl : xs.length ≤ lim) (ok : ascOk xs) (hij : i ≠ j) (hi : i < ρ.length) (hj : j < ρ.length) (hP : P (.bool (asc xs)) ρ) :
    compX Γ (.tup [i, j]) .nil (.cmp .lt (.v i) (.v j)) (zip2 xs (xs.drop 1)) ρ fun d ρ1 => biX .all [d] fun d => P d ρ1 := by
  refine comp_M (fun p => .bool (ltP p)) (fun p hp => ?_) ?_ ?_
  · obtain ⟨x, y, rfl, e⟩ := ascOk_zip ok p hp
    refine ⟨((wipe ρ [i, j]).set i (some x)).set j (some y), rfl, ?_⟩
    walk_at "hx"
    refine ⟨x, ?_, y, ?_, ?_⟩
    · rw [List.getElem?_set_ne fun z => hij z.symm, List.getElem?_set_self (by simpa using hi)]
    · rw [List.getElem?_set_self (by simpa using hj)]
    · exact ⟨_, e, rfl⟩
  · rw [zip2_len]
    omega
  · rw [k_all (f := ltP) fun _ _ => rfl, asc_zip]
    exact hP
def AscS (m : Mng) : Prop := ∀ xs, xs.length ≤ lim → ascOk xs → T (fun p => p.1 = .bool (asc xs)) (m [.tuple xs])
theorem asc_s {Γ : List Callee} : AscS (F_is_ascending.mng Γ) := by
  intro xs hl ok
  refine (mng_T (P := fun d o => d = .bool (asc xs)) rfl).mpr ?_
  unfold F_is_ascending
  walk_at "hx"
  rw [sl_1]
  refine ⟨_, zip_tt, ?_⟩
  exact asc_comp hl ok (by decide) (by simp) (by simp) ⟨rfl, rfl⟩
/-! ### numbers below -/
def allBet (lo hi : Int) (xs : List PyData) : Bool := xs.all (isBet lo hi)
theorem bet_ascOk {lo hi : Int} : ∀ {xs : List PyData}, allBet lo hi xs = true → ascOk xs
  | [], _ => trivial
  | [x], _ => trivial
  | x :: y :: r, h => by
    unfold allBet at h
    rw [List.all_cons, List.all_cons, Bool.and_eq_true, Bool.and_eq_true] at h
    refine ⟨?_, bet_ascOk (lo := lo) (hi := hi) (by unfold allBet; rw [List.all_cons, h.2.1, h.2.2]; rfl)⟩
    cases x with
    | int a =>
      cases y with
      | int b => rfl
      | _ => have := h.2.1; cases this
    | _ => have := h.1; cases this
def isNums (hi : Int) : PyData → Bool
  | .tuple xs => allBet 0 hi xs && asc xs
  | _ => false
/-- tuples that are not too long -/
def shortT : PyData → Prop
  | .tuple xs => xs.length ≤ lim
  | _ => True
def NumsS (m : Mng) : Prop := ∀ x n, shortT x → T (fun p => p.1 = .bool (isNums (n - 1) x)) (m [x, .int n])
theorem nums_s {Γ : List Callee} {c1 c2 : Nat} {m1 m2 : Mng} (g1 : Γ[c1]? = some ⟨[], m1⟩) (h1 : BetweenS m1) (g2 : Γ[c2]? = some ⟨[], m2⟩) (h2 : AscS m2) : NumsS ((F_are_numbers_below c1 c2).mng Γ) := by
  intro x n hs
  refine (mng_T (P := fun d o => d = .bool (isNums (n - 1) x)) rfl).mpr ?_
  unfold F_are_numbers_below
  walk_at "hx"
  cases x with
  | tuple xs =>
    refine ⟨fun _ => ?_, fun h => (by cases h)⟩
    walk_at "hx"
    refine comp_M (fun x => .bool (isBet 0 (n - 1) x)) (fun x hx => ⟨_, rfl, ?_⟩) hs ?_
    · walk_at "hx"
      exact call_0 g1 ((h1 x 0 (n - 1)).mono fun p hp => ⟨hp, rfl⟩)
    · rw [k_all (f := isBet 0 (n - 1)) fun _ _ => rfl]
      walk_at "hx"
      refine ⟨fun h => ?_, fun h => ⟨rfl, ?_⟩⟩
      · refine call_0 g2 ((h2 xs hs (bet_ascOk (lo := 0) (hi := n - 1) h)).mono fun p hp => ?_)
        rw [hp]
        walk_at "hx"
        have e : isNums (n - 1) (.tuple xs) = asc xs := by
          show (allBet 0 (n - 1) xs && asc xs) = _
          have h' : allBet 0 (n - 1) xs = true := h
          rw [h']
          rfl
        rw [e]
        refine ⟨fun h => ⟨rfl, ?_⟩, fun h => ⟨rfl, ?_⟩⟩ <;> rw [h]
      · have h' : allBet 0 (n - 1) xs = false := h
        show _ = PyData.bool (allBet 0 (n - 1) xs && asc xs)
        rw [h']
        rfl
  | _ => exact ⟨fun h => (by cases h), fun _ => ⟨rfl, rfl⟩⟩
end Hx

set_option Elab.async false
set_option linter.all false
set_option maxRecDepth 100000
set_option maxHeartbeats 4000000
/-! P4: products, sizes, is_scenario. -/
namespace Hx
open PySem
local macro_rules | `(tactic| walk_at "hx") => `(tactic| simp only [E_v, E_lit, E_con, E_edct, E_tup, E_lst, E_neg, E_bin, E_cmp, E_chain, E_isN, E_not, E_and, E_or, EAnd_nil, EAnd_cons, EOr_nil, EOr_cons, E_ite, E_call, E_callk, E_bi, E_mkt, E_mkl, E_isa, E_idx, E_sl, E_rev, E_ixof, E_dzip, E_dget, E_comp, E_comp2, E_dcomp2, E_pop, Es_nil, Es_cons, Et_val, Et_not, Et_and, Et_or, ECs_nil, ECs_cons, EDs_nil, EDs_cons, EO_non, EO_som, EI_seq, EI_rng, EI_zip, EI_enm,
  St_asg, St_unp, St_setix, St_aug, St_ex, St_app, St_ext, St_ret, St_if, St_for, St_pas, Ss_nil, Ss_cons, Lit.d, List.getElem?_cons_zero, List.getElem?_cons_succ, List.set_cons_zero, List.set_cons_succ, List.length_cons, List.length_nil, List.map_cons, List.map_nil, List.replicate_succ, List.replicate_zero, List.cons_append, List.nil_append, Option.some.injEq, exists_eq_left', exists_eq_left, PyData.int.injEq, PyData.list.injEq, PyData.tuple.injEq, PyData.bool.injEq, PyData.str.injEq,
  ifB_tt, ifB_ff, ifB_dec, ifB_not, op_add, op_sub, op_mul, op_mod, op_fdiv, op_pow, op_addt, op_addl, cm_lt, cm_le, cm_gt, cm_ge, cm_eq, cm_ne, b_bool, t_bool, bi_len_l, bi_len_t, bi_tuple_l, bi_tuple_t, bi_list_l, bi_list_t, bi_int_i, bi_int_b, bi_absI, ix_list, ix_tuple, at_0, at_1, at_2, at_3, Bool.not_true, Bool.not_false, Nat.reduceSub, Nat.reduceAdd, neg_i, int_i, items_l, items_t, items_ll, exists_const, exists_and_left, ix30, ix31, ix32, own_v, own_tup, wipe_nil, wipe_cons, bindT_v, bindT_tup, setAll_nil, setAll_cons, true_and, and_true])
/-! ### two clauses that change nothing -/
theorem turns_lev {ρ : Env} {t : Tgt} {is : List Nat} {b : Env → Res (List PyData × Env)} {g : PyData → List PyData} {xs : List PyData} (hs : ∀ x ∈ xs, ∃ ρ2, bindT t x (wipe ρ is) = some ρ2 ∧ T (fun p => p.1 = g x ∧ Like is ρ p.2) (b ρ2)) : T (fun q => q.1 = xs.flatMap g ∧ Like is ρ q.2) (turns (levF t is b) xs ρ) := by
  have go : ∀ (ys : List PyData) (ρ' : Env), (∀ y ∈ ys, y ∈ xs) → Like is ρ ρ' → T (fun q => q.1 = ys.flatMap g ∧ Like is ρ q.2) (turns (levF t is b) ys ρ') := by
    intro ys
    induction ys with
    | nil => intro ρ' _ lk; exact ⟨_, rfl, rfl, lk⟩
    | cons y ys ih =>
      intro ρ' hm lk
      obtain ⟨ρ2, e1, h1⟩ := hs y (hm y List.mem_cons_self)
      show T _ ((levF t is b y ρ').bnd fun p => (turns (levF t is b) ys p.2).bnd fun q => .ok (p.1 ++ q.1, q.2))
      unfold levF
      rw [lk.wipe, e1, T_bnd, T_bnd, T_some]
      refine h1.mono fun p hp => ?_
      rw [T_bnd]
      refine (ih p.2 (fun z hz => hm z (List.mem_cons_of_mem _ hz)) hp.2).mono fun q hq => ?_
      rw [T_ok]
      refine ⟨?_, hq.2⟩
      show p.1 ++ q.1 = _
      rw [hp.1, hq.1]
      rfl
  exact go xs ρ (fun y h => h) Like.refl
theorem Like.trans' {is js : List Nat} {ρ ρ' ρ'' : Env} (h : Like is ρ ρ') (k : Like js ρ' ρ'') (hs : ∀ i ∈ js, i ∈ is) : Like is ρ ρ'' := ⟨k.1.trans h.1, fun j hj => (k.2 j fun z => hj (hs j z)).trans (h.2 j hj)⟩
section
variable {Γ : List Callee} {ρ : Env} {P : PyData → Env → Prop}
theorem dcomp2_T {t t2 : Tgt} {it2 : II} {k v : IE} (f : PyData → List PyData) (gk gv : PyData → PyData → PyData) {xs : List PyData}
    (hs : ∀ x ∈ xs, ∃ ρ2, bindT t x (wipe ρ (t.own ++ t2.own)) = some ρ2 ∧ (EI Γ it2 ρ2 fun ys ρ3 => ys = f x ∧ ρ3 = ρ2) ∧ ∀ y ∈ f x, ∃ ρ4, bindT t2 y (wipe ρ2 t2.own) = some ρ4 ∧ (E Γ k ρ4 fun d ρ5 => d = gk x y ∧ keyOk d = true ∧ ρ5 = ρ4) ∧ E Γ v ρ4 fun d ρ5 => d = gv x y ∧ ρ5 = ρ4)
    (hP : ∃ kvs, pairsOf (xs.flatMap fun x => (f x).map fun y => .tuple [gk x y, gv x y]) = some kvs ∧ kvs.length ≤ lim ∧ P (.dict (putsD [] kvs)) ρ) : dcomp2X Γ t t2 it2 k v xs ρ P := by
  unfold dcomp2X d2F
  refine (turns_lev (g := fun x => (f x).map fun y => .tuple [gk x y, gv x y]) fun x hx => ?_).mono fun q hq => ?_
  · obtain ⟨ρ2, e1, h1, h2⟩ := hs x hx
    have lk : Like (t.own ++ t2.own) ρ ρ2 := Like.refl.bind e1 fun i hi => List.mem_append_left _ hi
    refine ⟨ρ2, e1, ?_⟩
    have e0 : ((evCs Γ .nil ρ2).bnd fun p => if p.1 = true then (evI Γ it2 p.2).bnd fun q => turns (levF t2 t2.own fun ρ => (evCs Γ .nil ρ).bnd fun p => if p.1 = true then (evE Γ k p.2).bnd fun a => (evE Γ v a.2).bnd fun b => if keyOk a.1 = true then .ok ([PyData.tuple [a.1, b.1]], b.2) else .stuck else .ok ([], p.2)) q.1 q.2 else .ok ([], p.2)) =
      (evI Γ it2 ρ2).bnd fun q => turns (levF t2 t2.own fun ρ => (evCs Γ .nil ρ).bnd fun p => if p.1 = true then (evE Γ k p.2).bnd fun a => (evE Γ v a.2).bnd fun b => if keyOk a.1 = true then .ok ([PyData.tuple [a.1, b.1]], b.2) else .stuck else .ok ([], p.2)) q.1 q.2 := rfl
    rw [e0, T_bnd]
    refine h1.mono fun q hq => ?_
    rw [hq.1, hq.2]
    refine (turns_lev (g := fun y => [PyData.tuple [gk x y, gv x y]]) fun y hy => ?_).mono fun r hr => ?_
    · obtain ⟨ρ4, e4, h4, h5⟩ := h2 y hy
      refine ⟨ρ4, e4, ?_⟩
      have lk4 : Like t2.own ρ2 ρ4 := Like.refl.bind e4 fun i hi => hi
      have e5 : ((evCs Γ .nil ρ4).bnd fun p => if p.1 = true then (evE Γ k p.2).bnd fun a => (evE Γ v a.2).bnd fun b => if keyOk a.1 = true then .ok ([PyData.tuple [a.1, b.1]], b.2) else .stuck else .ok ([], p.2)) = (evE Γ k ρ4).bnd fun a => (evE Γ v a.2).bnd fun b => if keyOk a.1 = true then .ok ([PyData.tuple [a.1, b.1]], b.2) else .stuck := rfl
      rw [e5, T_bnd]
      refine h4.mono fun a ha => ?_
      rw [T_bnd, ha.2.2]
      refine h5.mono fun b hb => ?_
      rw [if_pos ha.2.1, T_ok]
      exact ⟨by rw [ha.1, hb.1], by rw [hb.2]; exact lk4⟩
    · refine ⟨?_, lk.trans' hr.2 fun i hi => List.mem_append_right _ hi⟩
      rw [hr.1]
      induction f x with
      | nil => rfl
      | cons y ys ih => rw [List.flatMap_cons, ih]; rfl
  · obtain ⟨kvs, e1, e2, h⟩ := hP
    rw [hq.1]
    exact ⟨kvs, e1, e2, by rw [hq.2.back]; exact h⟩
end
/-! ### products -/
def prodI (ns : List Int) : Int := ns.foldl (· * ·) 1
theorem prodI_snoc {ns : List Int} {n : Int} : prodI (ns ++ [n]) = prodI ns * n := by
  unfold prodI
  rw [List.foldl_append]
  rfl
/-- ints of a modest size, not too many -/
def Modest (ns : List Int) : Prop := ns.length ≤ 64 ∧ ∀ n ∈ ns, 0 ≤ n ∧ n ≤ 1000000
theorem prod_bound {ns : List Int} (h : ∀ n ∈ ns, 0 ≤ n ∧ n ≤ 1000000) : 0 ≤ prodI ns ∧ prodI ns < 2 ^ (20 * ns.length + 1) := by
  have go : ∀ (ns : List Int) (a : Int) (k : Nat), (∀ n ∈ ns, 0 ≤ n ∧ n ≤ 1000000) → 0 ≤ a → a < 2 ^ (k + 1) → 0 ≤ ns.foldl (· * ·) a ∧ ns.foldl (· * ·) a < 2 ^ (k + 20 * ns.length + 1) := by
    intro ns
    induction ns with
    | nil => intro a k _ h0 h1; exact ⟨h0, h1⟩
    | cons n ns ih =>
      intro a k h h0 h1
      have hn := h n List.mem_cons_self
      have e := ih (a * n) (k + 20) (fun m hm => h m (List.mem_cons_of_mem _ hm)) (Int.mul_nonneg h0 hn.1) (by
        have e1 : a * n ≤ a * 1000000 := Int.mul_le_mul_of_nonneg_left hn.2 h0
        have e2 : (2 : Int) ^ (k + 20 + 1) = 2 ^ (k + 1) * 1048576 := by
          rw [show k + 20 + 1 = (k + 1) + 20 by omega, Int.pow_add]
          rfl
        omega)
      refine ⟨e.1, ?_⟩
      have e3 : k + 20 * (n :: ns).length + 1 = k + 20 + 20 * ns.length + 1 := by rw [List.length_cons]; omega
      rw [e3]
      exact e.2
  have := go ns 1 0 h (by decide) (by decide)
  rw [Nat.zero_add] at this
  exact this
theorem modest_lg {ns : List Int} (h : Modest ns) : (prodI ns).natAbs.log2 < 2000 := by
  obtain ⟨h1, h2⟩ := prod_bound h.2
  refine lg_of (by decide) ?_
  have e : (2 : Int) ^ (20 * ns.length + 1) ≤ 2 ^ 2000 := by
    have : (2 : Nat) ^ (20 * ns.length + 1) ≤ 2 ^ 2000 := Nat.pow_le_pow_right (by decide) (by have := h.1; omega)
    exact_mod_cast this
  omega
def ProductS (m : Mng) : Prop := ∀ x ns, itemsOf x = some (ns.map .int) → Modest ns → T (fun p => p.1 = .int (prodI ns)) (m [x])
theorem product_s {Γ : List Callee} : ProductS (F_product_of.mng Γ) := by
  intro x ns hx hm
  refine (mng_T (P := fun d o => d = .int (prodI ns)) rfl).mpr ?_
  unfold F_product_of
  walk_at "hx"
  rw [hx]
  refine ⟨_, rfl, ?_⟩
  refine loop_T (I := fun i ρ => ∃ o, ρ = [some x, some (.int (prodI (ns.take i))), o]) ⟨_, rfl⟩ ?_ ?_
  · rintro i y ρ hy ⟨o, rfl⟩
    rw [List.getElem?_map] at hy
    obtain ⟨n, hn, rfl⟩ := Option.map_eq_some_iff.mp hy
    refine ⟨_, rfl, ?_⟩
    walk_at "hx"
    have hi := (List.getElem?_eq_some_iff.mp hn).1
    have tk : ns.take (i + 1) = ns.take i ++ [n] := by
      rw [List.take_succ, hn]
      rfl
    have m2 : Modest (ns.take i) := ⟨by rw [List.length_take]; have := hm.1; omega, fun z hz => hm.2 z (List.mem_of_mem_take hz)⟩
    have hz := hm.2 n (List.mem_of_getElem? hn)
    refine ⟨?_, some (.int n), ?_⟩
    · unfold bitsOk
      have := modest_lg m2
      have := lg_of (x := n) (k := 20) (by decide) (by omega)
      simp only [decide_eq_true_eq]
      omega
    · rw [tk, prodI_snoc]
  · rintro ρ ⟨o, rfl⟩
    rw [List.length_map, List.take_length]
    walk_at "hx"
    exact ⟨rfl, rfl⟩
end Hx

set_option Elab.async false
set_option linter.all false
set_option maxRecDepth 100000
set_option maxHeartbeats 4000000
/-! P5: is_scenario. -/
namespace Hx
open PySem
local macro_rules | `(tactic| walk_at "hx") => `(tactic| simp only [E_v, E_lit, E_con, E_edct, E_tup, E_lst, E_neg, E_bin, E_cmp, E_chain, E_isN, E_not, E_and, E_or, EAnd_nil, EAnd_cons, EOr_nil, EOr_cons, E_ite, E_call, E_callk, E_bi, E_mkt, E_mkl, E_isa, E_idx, E_sl, E_rev, E_ixof, E_dzip, E_dget, E_comp, E_comp2, E_dcomp2, E_pop, Es_nil, Es_cons, Et_val, Et_not, Et_and, Et_or, ECs_nil, ECs_cons, EDs_nil, EDs_cons, EO_non, EO_som, EI_seq, EI_rng, EI_zip, EI_enm,
  St_asg, St_unp, St_setix, St_aug, St_ex, St_app, St_ext, St_ret, St_if, St_for, St_pas, Ss_nil, Ss_cons, Lit.d, List.getElem?_cons_zero, List.getElem?_cons_succ, List.set_cons_zero, List.set_cons_succ, List.length_cons, List.length_nil, List.map_cons, List.map_nil, List.replicate_succ, List.replicate_zero, List.cons_append, List.nil_append, Option.some.injEq, exists_eq_left', exists_eq_left, PyData.int.injEq, PyData.list.injEq, PyData.tuple.injEq, PyData.bool.injEq, PyData.str.injEq,
  ifB_tt, ifB_ff, ifB_dec, ifB_not, op_add, op_sub, op_mul, op_mod, op_fdiv, op_pow, op_addt, op_addl, cm_lt, cm_le, cm_gt, cm_ge, cm_eq, cm_ne, b_bool, t_bool, bi_len_l, bi_len_t, bi_tuple_l, bi_tuple_t, bi_list_l, bi_list_t, bi_int_i, bi_int_b, bi_absI, ix_list, ix_tuple, at_0, at_1, at_2, at_3, Bool.not_true, Bool.not_false, Nat.reduceSub, Nat.reduceAdd, neg_i, int_i, items_l, items_t, items_ll, exists_const, exists_and_left, ix30, ix31, ix32, own_v, own_tup, wipe_nil, wipe_cons, bindT_v, bindT_tup, setAll_nil, setAll_cons, true_and, and_true])
def intV : PyData → Int
  | .int i => i
  | _ => 0
theorem bet_ints {lo hi : Int} : ∀ {xs : List PyData}, allBet lo hi xs = true → xs = (xs.map intV).map .int ∧ ∀ n ∈ xs.map intV, lo ≤ n ∧ n ≤ hi
  | [], _ => ⟨rfl, fun n h => by cases h⟩
  | x :: xs, h => by
    unfold allBet at h
    rw [List.all_cons, Bool.and_eq_true] at h
    obtain ⟨e, k⟩ := bet_ints (xs := xs) h.2
    cases x with
    | int i =>
      have hi' : (decide (lo ≤ i) && decide (i ≤ hi)) = true := h.1
      rw [Bool.and_eq_true, decide_eq_true_eq, decide_eq_true_eq] at hi'
      refine ⟨?_, fun n hn => ?_⟩
      · rw [List.map_cons, List.map_cons, ← e]
        rfl
      · rcases List.mem_cons.mp hn with z | z
        · rw [z]; exact hi'
        · exact k n z
    | _ => cases h.1
def isSizes : PyData → Bool
  | .tuple xs => decide (1 ≤ xs.length ∧ xs.length ≤ 8) && allBet 2 4 xs && decide (prodI (xs.map intV) ≤ 256)
  | _ => false
def SizesIsS (m : Mng) : Prop := ∀ x, T (fun p => p.1 = .bool (isSizes x)) (m [x])
theorem are_sizes_s {Γ : List Callee} {c1 c2 : Nat} {m1 m2 : Mng} (g1 : Γ[c1]? = some ⟨[], m1⟩) (h1 : BetweenS m1) (g2 : Γ[c2]? = some ⟨[], m2⟩) (h2 : ProductS m2) : SizesIsS ((F_are_sizes c1 c2).mng Γ) := by
  intro x
  refine (mng_T (P := fun d o => d = .bool (isSizes x)) rfl).mpr ?_
  unfold F_are_sizes
  walk_at "hx"
  cases x with
  | tuple xs =>
    refine ⟨fun _ => ?_, fun h => (by cases h)⟩
    walk_at "hx"
    have fail : ¬ (1 ≤ xs.length ∧ xs.length ≤ 8) → endP [] (fun d o => d = PyData.bool (isSizes (.tuple xs))) (.bool false) [some (.tuple xs), none] := fun h => ⟨rfl, by
      show _ = PyData.bool (decide (1 ≤ xs.length ∧ xs.length ≤ 8) && allBet 2 4 xs && decide (prodI (xs.map intV) ≤ 256))
      rw [decide_eq_false h]
      rfl⟩
    refine ⟨fun ha => ⟨fun hb => ?_, fun hb => fail (by omega)⟩, fun ha => fail (by omega)⟩
    have hl : xs.length ≤ lim := by unfold lim; omega
    refine comp_M (fun x => .bool (isBet 2 4 x)) (fun x hx => ⟨_, rfl, ?_⟩) hl ?_
    · walk_at "hx"
      exact call_0 g1 ((h1 x 2 4).mono fun p hp => ⟨hp, rfl⟩)
    · rw [k_all (f := isBet 2 4) fun _ _ => rfl]
      walk_at "hx"
      have h8 : decide (1 ≤ xs.length ∧ xs.length ≤ 8) = true := decide_eq_true (by omega)
      refine ⟨fun h => ?_, fun h => ⟨rfl, ?_⟩⟩
      · obtain ⟨e, k⟩ := bet_ints (lo := 2) (hi := 4) (xs := xs) h
        refine call_0 g2 ((h2 (.tuple xs) (xs.map intV) (by rw [← e]; rfl) ⟨by rw [List.length_map]; omega, fun n hn => by have := k n hn; omega⟩).mono fun p hp => ?_)
        rw [hp]
        walk_at "hx"
        have h' : allBet 2 4 xs = true := h
        refine ⟨fun hp => ⟨rfl, ?_⟩, fun hp => ⟨rfl, ?_⟩⟩
        · show _ = PyData.bool (decide (1 ≤ xs.length ∧ xs.length ≤ 8) && allBet 2 4 xs && decide (prodI (xs.map intV) ≤ 256))
          rw [h8, h', decide_eq_true hp]
          rfl
        · show _ = PyData.bool (decide (1 ≤ xs.length ∧ xs.length ≤ 8) && allBet 2 4 xs && decide (prodI (xs.map intV) ≤ 256))
          rw [h8, h', decide_eq_false hp]
          rfl
      · show _ = PyData.bool (decide (1 ≤ xs.length ∧ xs.length ≤ 8) && allBet 2 4 xs && decide (prodI (xs.map intV) ≤ 256))
        have h' : allBet 2 4 xs = false := h
        rw [h', Bool.and_false, Bool.false_and]
  | _ => exact ⟨fun h => (by cases h), fun _ => ⟨rfl, rfl⟩⟩
/-! ### contexts -/
/-- x != () -/
def neNil : PyData → Bool
  | .tuple [] => false
  | _ => true
theorem eqOk_nil (x : PyData) : eqOk x (.tuple []) = true := by
  cases x with
  | none => simp [eqOk, PyData.plain, PyData.plainAll, PyData.depth]
  | bool b => simp [eqOk, PyData.plain, PyData.plainAll, PyData.depth]
  | int b => simp [eqOk, PyData.plain, PyData.plainAll, PyData.depth]
  | str b => simp [eqOk, PyData.plain, PyData.plainAll, PyData.depth]
  | list xs => simp [eqOk, eqTop, isLD, isTup]
  | tuple xs => simp [eqOk, eqTop, isNil, isTup]
  | dict xs => simp [eqOk, eqTop, isLD, isTup]
theorem cm_neNil {x : PyData} {Q : Bool → Prop} : cmX .ne x (.tuple []) Q ↔ Q (neNil x) := by
  have e : (!PyData.eqv x (.tuple [])) = neNil x := by
    cases x with
    | tuple xs => cases xs <;> rfl
    | _ => rfl
  have e0 : cmpD .ne x (.tuple []) = some (neNil x) := by
    show (if eqOk x (.tuple []) = true then some (!PyData.eqv x (.tuple [])) else none) = _
    rw [if_pos (eqOk_nil x), e]
  unfold cmX
  rw [e0]
  simp
def isCtx (n : Int) (x : PyData) : Bool := neNil x && isNums (n - 1) x
/-- the numbers of all contexts, in order -/
def allQs (cs : List PyData) : List Int := cs.flatMap fun c => match c with
  | .tuple xs => xs.map intV
  | _ => []
/-- how many of them there are -/
def kinds (qs : List Int) : Nat := qs.eraseDups.length
def isScen : PyData → Bool
  | .tuple [s, c] => isSizes s && (match s, c with
    | .tuple ss, .tuple cs => decide (1 ≤ cs.length ∧ cs.length ≤ 28) && cs.all (isCtx ss.length) && asc cs && decide ((putsD [] ((allQs cs).map fun q => (PyData.int q, PyData.bool true))).length = ss.length)
    | _, _ => false)
  | _ => false
/-- contexts can be compared -/
theorem ctx_ascOk {n : Int} : ∀ {cs : List PyData}, cs.all (isCtx n) = true → ascOk cs
  | [], _ => trivial
  | [x], _ => trivial
  | x :: y :: r, h => by
    rw [List.all_cons, List.all_cons, Bool.and_eq_true, Bool.and_eq_true] at h
    refine ⟨?_, ctx_ascOk (n := n) (by rw [List.all_cons, h.2.1, h.2.2]; rfl)⟩
    have look : ∀ z, isCtx n z = true → ∃ xs : List Int, z = .tuple (xs.map .int) := fun z hz => by
      cases z with
      | tuple xs =>
        have hz' : (neNil (.tuple xs) && (allBet 0 (n - 1) xs && asc xs)) = true := hz
        rw [Bool.and_eq_true, Bool.and_eq_true] at hz'
        exact ⟨xs.map intV, by rw [← (bet_ints hz'.2.1).1]⟩
      | none => cases hz
      | bool b => cases hz
      | int b => cases hz
      | str b => cases hz
      | list b => cases hz
      | dict b => cases hz
    obtain ⟨xs, rfl⟩ := look x h.1
    obtain ⟨ys, rfl⟩ := look y h.2.1
    have ok : ltOk (.tuple (xs.map .int)) (.tuple (ys.map .int)) = true := by
      unfold ltOk
      have a1 : PySem.W.alike (.tuple (xs.map .int)) (.tuple (ys.map .int)) = true := by
        rw [PySem.W.alike]
        exact PySem.W.alike_ints xs ys
      have d1 : (PyData.tuple (xs.map .int)).depth ≤ 1 := by
        have := PySem.W.depth_ints xs
        simp [PyData.depth, this]
      rw [a1]
      simp
      omega
    show (onInts (fun a b => some (decide (a < b))) (if ltOk (.tuple (xs.map .int)) (.tuple (ys.map .int)) = true then some (PySem.W.dataLt (.tuple (xs.map .int)) (.tuple (ys.map .int))) else none) (.tuple (xs.map .int)) (.tuple (ys.map .int))).isSome = true
    rw [if_pos ok]
    rfl
theorem ctx_look {n : Int} {z : PyData} (hz : isCtx n z = true) : ∃ xs : List PyData, z = .tuple xs ∧ xs ≠ [] ∧ allBet 0 (n - 1) xs = true ∧ asc xs = true := by
  cases z with
  | tuple xs =>
    have hz' : (neNil (.tuple xs) && (allBet 0 (n - 1) xs && asc xs)) = true := hz
    rw [Bool.and_eq_true, Bool.and_eq_true] at hz'
    exact ⟨xs, rfl, (fun z => by rw [z] at hz'; cases hz'.1), hz'.2.1, hz'.2.2⟩
  | none => cases hz
  | bool b => cases hz
  | int b => cases hz
  | str b => cases hz
  | list b => cases hz
  | dict b => cases hz
theorem pairs_qs : ∀ {qs : List Int}, pairsOf (qs.map fun q => PyData.tuple [.int q, .bool true]) = some (qs.map fun q => (PyData.int q, PyData.bool true))
  | [] => rfl
  | q :: qs => by
    show (pairsOf (qs.map fun q => PyData.tuple [.int q, .bool true])).map _ = _
    rw [pairs_qs]
    rfl
/-- nothing in it is too long -/
def shortT2 : PyData → Prop
  | .tuple xs => xs.length ≤ lim ∧ ∀ x ∈ xs, shortT x
  | _ => True
def shortD : PyData → Prop
  | .tuple xs => xs.length ≤ lim ∧ ∀ x ∈ xs, shortT2 x
  | _ => True
/-- an ascending tuple of numbers up to hi is short -/
theorem asc_len {lo hi : Int} : ∀ {x : PyData} {r : List PyData}, allBet lo hi (x :: r) = true → asc (x :: r) = true → intV x + r.length ≤ hi ∧ lo ≤ intV x
  | x, [], h, _ => by
    unfold allBet at h
    rw [List.all_cons, Bool.and_eq_true] at h
    cases x with
    | int i =>
      have hx : (decide (lo ≤ i) && decide (i ≤ hi)) = true := h.1
      rw [Bool.and_eq_true, decide_eq_true_eq, decide_eq_true_eq] at hx
      simp only [intV, List.length_nil]
      omega
    | _ => cases h.1
  | x, y :: r, h, ha => by
    have ha' : (ltV x y && asc (y :: r)) = true := ha
    rw [Bool.and_eq_true] at ha'
    unfold allBet at h
    rw [List.all_cons, Bool.and_eq_true] at h
    have ih := asc_len (lo := lo) (hi := hi) (x := y) (r := r) h.2 ha'.2
    have hy := h.2
    rw [List.all_cons, Bool.and_eq_true] at hy
    cases x with
    | int i =>
      cases y with
      | int j =>
        have hx : (decide (lo ≤ i) && decide (i ≤ hi)) = true := h.1
        rw [Bool.and_eq_true, decide_eq_true_eq, decide_eq_true_eq] at hx
        have hlt := ha'.1
        rw [ltV_int, decide_eq_true_eq] at hlt
        simp only [intV, List.length_cons] at ih ⊢
        omega
      | _ => cases hy.1
    | _ => cases h.1
theorem ctx_len {n : Nat} {c : PyData} (h : isCtx n c = true) : ∃ xs : List PyData, c = .tuple xs ∧ xs.length ≤ n := by
  obtain ⟨xs, rfl, h1, h2, h3⟩ := ctx_look h
  refine ⟨xs, rfl, ?_⟩
  cases xs with
  | nil => exact absurd rfl h1
  | cons x r =>
    have := asc_len h2 h3
    rw [List.length_cons]
    omega
def itemsV : PyData → List PyData
  | .tuple xs => xs
  | _ => []
theorem qs_pairs {n : Nat} : ∀ {cs : List PyData}, cs.all (isCtx n) = true → (cs.flatMap fun c => (itemsV c).map fun y => PyData.tuple [y, .bool true]) = (allQs cs).map (fun q => PyData.tuple [.int q, .bool true]) ∧ (allQs cs).length ≤ cs.length * n
  | [], _ => ⟨rfl, Nat.zero_le _⟩
  | c :: cs, h => by
    rw [List.all_cons, Bool.and_eq_true] at h
    obtain ⟨e, k⟩ := qs_pairs (cs := cs) h.2
    obtain ⟨xs, rfl, hl⟩ := ctx_len h.1
    obtain ⟨ys, e2, _, hb, _⟩ := ctx_look h.1
    cases e2
    have e3 : allQs (.tuple xs :: cs) = xs.map intV ++ allQs cs := rfl
    refine ⟨?_, ?_⟩
    · rw [List.flatMap_cons, e, e3, List.map_append]
      congr 1
      show xs.map (fun y => PyData.tuple [y, .bool true]) = _
      conv => lhs; rw [(bet_ints hb).1]
      rw [List.map_map]
      rfl
    · rw [e3, List.length_append, List.length_map, List.length_cons, Nat.add_mul]
      omega
def ScenS (m : Mng) : Prop := ∀ x, shortD x → T (fun p => p.1 = .bool (isScen x)) (m [x])
theorem scen_s {Γ : List Callee} {c1 c2 c3 : Nat} {m1 m2 m3 : Mng} (g1 : Γ[c1]? = some ⟨[], m1⟩) (h1 : SizesIsS m1) (g2 : Γ[c2]? = some ⟨[], m2⟩) (h2 : NumsS m2) (g3 : Γ[c3]? = some ⟨[], m3⟩) (h3 : AscS m3) : ScenS ((F_is_scenario c1 c2 c3).mng Γ) := by
  intro x hs
  refine (mng_T (P := fun d o => d = .bool (isScen x)) rfl).mpr ?_
  unfold F_is_scenario
  walk_at "hx"
  have ne2 : ∀ {k : Bool}, isScen x = k → ∀ ρ, endP [] (fun d o => d = PyData.bool (isScen x)) (.bool k) ρ := fun e ρ => ⟨rfl, by rw [e]⟩
  cases x with
  | tuple xs =>
    refine ⟨fun _ => ?_, fun h => (by cases h)⟩
    walk_at "hx"
    match xs, hs with
    | [], _ => exact ⟨fun h => absurd h (by decide), fun _ => ne2 rfl _⟩
    | [_], _ => exact ⟨fun h => absurd h (by simp), fun _ => ne2 rfl _⟩
    | a :: b :: c :: r, _ => exact ⟨fun h => absurd h (by simp only [List.length_cons]; omega), fun _ => ne2 rfl _⟩
    | [s, c], hs =>
      refine ⟨fun _ => ?_, fun h => absurd rfl h⟩
      walk_at "hx"
      refine call_0 g1 ((h1 s).mono fun p hp => ?_)
      rw [hp]
      walk_at "hx"
      refine ⟨fun e1 => ?_, fun e1 => ne2 (by show (isSizes s && _) = false; rw [e1]; rfl) _⟩
      cases s with
      | tuple ss =>
        cases c with
        | tuple cs =>
          have hc := hs.2 (.tuple cs) (by simp)
          have hall : ∀ {k : Bool}, (decide (1 ≤ cs.length ∧ cs.length ≤ 28) && cs.all (isCtx ss.length) && asc cs && decide ((putsD [] ((allQs cs).map fun q => (PyData.int q, PyData.bool true))).length = ss.length)) = k → isScen (.tuple [.tuple ss, .tuple cs]) = k := fun e => by
            show (isSizes (.tuple ss) && (decide (1 ≤ cs.length ∧ cs.length ≤ 28) && cs.all (isCtx ss.length) && asc cs && decide ((putsD [] ((allQs cs).map fun q => (PyData.int q, PyData.bool true))).length = ss.length))) = _
            rw [e1, e]
            rfl
          have fl : ∀ ρ, ¬ (1 ≤ cs.length ∧ cs.length ≤ 28) → endP [] (fun d o => d = PyData.bool (isScen (.tuple [.tuple ss, .tuple cs]))) (.bool false) ρ := fun ρ h => ne2 (hall (by rw [decide_eq_false h]; rfl)) ρ
          refine ⟨fun _ => ?_, fun h => (by cases h)⟩
          walk_at "hx"
          refine ⟨fun ha => ⟨fun hb => ?_, fun hb => fl _ (by omega)⟩, fun ha => fl _ (by omega)⟩
          have hl : cs.length ≤ lim := hc.1
          refine comp_M (fun c => .bool (isCtx ss.length c)) (fun c hcm => ⟨_, rfl, ?_⟩) hl ?_
          · walk_at "hx"
            rw [cm_neNil]
            refine ⟨fun en => ?_, fun en => ?_⟩
            · refine call_0 g2 ((h2 c _ (hc.2 c hcm)).mono fun p hp => ?_)
              rw [hp]
              walk_at "hx"
              have e : isCtx ss.length c = isNums (ss.length - 1) c := by
                show (neNil c && _) = _
                rw [en]
                rfl
              rw [e]
              exact ⟨fun h => (by rw [h]), fun h => (by rw [h])⟩
            · show false = (neNil c && _)
              rw [en]
              rfl
          · rw [k_all (f := isCtx ss.length) fun _ _ => rfl]
            walk_at "hx"
            have h28 : decide (1 ≤ cs.length ∧ cs.length ≤ 28) = true := decide_eq_true (by omega)
            refine ⟨fun ek => ?_, fun ek => ne2 (hall (by rw [h28, ek]; rfl)) _⟩
            have hss : ss.length ≤ 8 := by
              have e1' : (decide (1 ≤ ss.length ∧ ss.length ≤ 8) && allBet 2 4 ss && decide (prodI (ss.map intV) ≤ 256)) = true := e1
              simp only [Bool.and_eq_true, decide_eq_true_eq] at e1'
              omega
            obtain ⟨eq1, eq2⟩ := qs_pairs ek
            have hq : (allQs cs).length ≤ lim := by
              have : cs.length * ss.length ≤ 28 * 8 := Nat.mul_le_mul (by omega) hss
              unfold lim
              omega
            refine dcomp2_T itemsV (fun _ y => y) (fun _ _ => .bool true) (fun c hcm => ⟨_, rfl, ?_, fun y hy => ⟨_, rfl, ?_, ?_⟩⟩) ?_
            · obtain ⟨ys, rfl, _⟩ := ctx_len (List.all_eq_true.mp ek c hcm)
              walk_at "hx"
              rfl
            · obtain ⟨ys, rfl, _, hb, _⟩ := ctx_look (List.all_eq_true.mp ek c hcm)
              have hb' := List.all_eq_true.mp hb y hy
              walk_at "hx"
              cases y with
              | int i => rfl
              | _ => cases hb'
            · exact ⟨_, rfl, rfl, rfl⟩
            · refine ⟨(allQs cs).map fun q => (PyData.int q, PyData.bool true), by rw [eq1]; exact pairs_qs, by rw [List.length_map]; exact hq, ?_⟩
              walk_at "hx"
              refine call_0 g3 ((h3 cs hl (ctx_ascOk ek)).mono fun p hp => ?_)
              rw [hp]
              walk_at "hx"
              refine ⟨fun ea => ?_, fun ea => ne2 (hall (by rw [h28, ek, ea]; rfl)) _⟩
              have el : ∀ kvs P, biX .len [.dict kvs] P ↔ P (.int kvs.length) := fun kvs P => by simp [biX, biD]
              rw [el]
              walk_at "hx"
              have hd : ∀ {k : Bool}, decide ((putsD [] ((allQs cs).map fun q => (PyData.int q, PyData.bool true))).length = ss.length) = k → isScen (.tuple [.tuple ss, .tuple cs]) = k := fun {k} e => hall (by rw [h28, ek, ea, e]; cases k <;> rfl)
              refine ⟨fun hn => ne2 (hd (decide_eq_true (by omega))) _, fun hn => ne2 (hd (decide_eq_false (by omega))) _⟩
        | _ => exact ⟨fun h => (by cases h), fun _ => ne2 (by show (isSizes _ && false) = false; rw [Bool.and_false]) _⟩
      | _ => cases e1
  | _ => exact ⟨fun h => (by cases h), fun _ => ne2 rfl _⟩
end Hx

set_option Elab.async false
set_option linter.all false
set_option maxRecDepth 100000
set_option maxHeartbeats 4000000
/-! P6: the law's own look at scenarios. -/
namespace Hx
open PySem
local macro_rules | `(tactic| walk_at "hx") => `(tactic| simp only [E_v, E_lit, E_con, E_edct, E_tup, E_lst, E_neg, E_bin, E_cmp, E_chain, E_isN, E_not, E_and, E_or, EAnd_nil, EAnd_cons, EOr_nil, EOr_cons, E_ite, E_call, E_callk, E_bi, E_mkt, E_mkl, E_isa, E_idx, E_sl, E_rev, E_ixof, E_dzip, E_dget, E_comp, E_comp2, E_dcomp2, E_pop, Es_nil, Es_cons, Et_val, Et_not, Et_and, Et_or, ECs_nil, ECs_cons, EDs_nil, EDs_cons, EO_non, EO_som, EI_seq, EI_rng, EI_zip, EI_enm,
  St_asg, St_unp, St_setix, St_aug, St_ex, St_app, St_ext, St_ret, St_if, St_for, St_pas, Ss_nil, Ss_cons, Lit.d, List.getElem?_cons_zero, List.getElem?_cons_succ, List.set_cons_zero, List.set_cons_succ, List.length_cons, List.length_nil, List.map_cons, List.map_nil, List.replicate_succ, List.replicate_zero, List.cons_append, List.nil_append, Option.some.injEq, exists_eq_left', exists_eq_left, PyData.int.injEq, PyData.list.injEq, PyData.tuple.injEq, PyData.bool.injEq, PyData.str.injEq,
  ifB_tt, ifB_ff, ifB_dec, ifB_not, op_add, op_sub, op_mul, op_mod, op_fdiv, op_pow, op_addt, op_addl, cm_lt, cm_le, cm_gt, cm_ge, cm_eq, cm_ne, b_bool, t_bool, bi_len_l, bi_len_t, bi_tuple_l, bi_tuple_t, bi_list_l, bi_list_t, bi_int_i, bi_int_b, bi_absI, ix_list, ix_tuple, at_0, at_1, at_2, at_3, Bool.not_true, Bool.not_false, Nat.reduceSub, Nat.reduceAdd, neg_i, int_i, items_l, items_t, items_ll, exists_const, exists_and_left, ix30, ix31, ix32, own_v, own_tup, wipe_nil, wipe_cons, bindT_v, bindT_tup, setAll_nil, setAll_cons, true_and, and_true])
theorem whole_s {Γ : List Callee} : BetweenS (F_law_whole.mng Γ) := by
  intro x lo hi
  refine (mng_T (P := fun d o => d = .bool (isBet lo hi x)) rfl).mpr ?_
  unfold F_law_whole
  walk_at "hx"
  cases x with
  | int i =>
    refine ⟨fun _ => ⟨fun h => (by cases h), fun _ => ?_⟩, fun h => (by cases h)⟩
    walk_at "hx"
    by_cases h1 : lo ≤ i <;> by_cases h2 : i ≤ hi <;> simp [h1, h2, endP, isBet, outs]
  | bool b => exact ⟨fun _ => ⟨fun _ => ⟨rfl, rfl⟩, fun h => (by cases h)⟩, fun h => (by cases h)⟩
  | _ => exact ⟨fun h => (by cases h), fun _ => ⟨rfl, rfl⟩⟩
theorem cm_eqNil {x : PyData} {Q : Bool → Prop} : cmX .eq x (.tuple []) Q ↔ Q (!neNil x) := by
  have e : PyData.eqv x (.tuple []) = !neNil x := by
    cases x with
    | tuple xs => cases xs <;> rfl
    | _ => rfl
  have e0 : cmpD .eq x (.tuple []) = some (!neNil x) := by
    show (if eqOk x (.tuple []) = true then some (PyData.eqv x (.tuple [])) else none) = _
    rw [if_pos (eqOk_nil x), e]
  unfold cmX
  rw [e0]
  simp only [Option.some.injEq, exists_eq_left']
def RisesS (m : Mng) : Prop := ∀ x hi, shortT x → T (fun p => p.1 = .bool (isCtx (hi + 1) x)) (m [x, .int hi])
theorem rises_s {Γ : List Callee} {c : Nat} {m : Mng} (g : Γ[c]? = some ⟨[], m⟩) (h : BetweenS m) : RisesS ((F_law_rises c).mng Γ) := by
  intro x hi hs
  refine (mng_T (P := fun d o => d = .bool (isCtx (hi + 1) x)) rfl).mpr ?_
  unfold F_law_rises
  walk_at "hx"
  cases x with
  | tuple xs =>
    refine ⟨fun _ => ?_, fun h => (by cases h)⟩
    rw [cm_eqNil]
    walk_at "hx"
    have ee : isCtx (hi + 1) (.tuple xs) = (neNil (.tuple xs) && (allBet 0 hi xs && asc xs)) := by
      show (neNil (.tuple xs) && (allBet 0 (hi + 1 - 1) xs && asc xs)) = _
      rw [show hi + 1 - 1 = hi by omega]
    rw [ee]
    refine ⟨fun en => ?_, fun en => ⟨rfl, by rw [en]; rfl⟩⟩
    refine comp_M (fun x => .bool (isBet 0 hi x)) (fun x hx => ⟨_, rfl, ?_⟩) hs ?_
    · walk_at "hx"
      exact call_0 g ((h x 0 hi).mono fun p hp => ⟨hp, rfl⟩)
    · rw [k_all (f := isBet 0 hi) fun _ _ => rfl]
      walk_at "hx"
      refine ⟨fun eb => ?_, fun eb => ⟨rfl, ?_⟩⟩
      · rw [sl_1]
        refine ⟨_, zip_tt, ?_⟩
        refine asc_comp hs (bet_ascOk (lo := 0) (hi := hi) eb) (by decide) (by simp) (by simp) ⟨rfl, ?_⟩
        have eb' : allBet 0 hi xs = true := eb
        rw [en, eb']
        rfl
      · have eb' : allBet 0 hi xs = false := eb
        rw [eb', Bool.false_and, Bool.and_false]
  | _ => exact ⟨fun h => (by cases h), fun _ => ⟨rfl, rfl⟩⟩
/-! ### covered -/
theorem putD_keys {k : Int} {kvs : List (PyData × PyData)} {K : List Int} (h : kvs.map (·.1) = K.map .int) : (putD kvs (.int k) (.bool true)).map (·.1) = (if k ∈ K then K else K ++ [k]).map .int := by
  have e : (kvs.any fun p => PyData.eqv p.1 (.int k)) = decide (k ∈ K) := by
    have e1 : (kvs.any fun p => PyData.eqv p.1 (.int k)) = (kvs.map (·.1)).any fun d => PyData.eqv d (.int k) := by rw [List.any_map]; rfl
    rw [e1, h, List.any_map]
    have e2 : ((fun d => PyData.eqv d (.int k)) ∘ PyData.int) = fun i => decide (i = k) := funext fun i => eqv_ints
    rw [e2, Bool.eq_iff_iff, List.any_eq_true, decide_eq_true_eq]
    constructor
    · rintro ⟨i, hi, hk⟩
      rw [decide_eq_true_eq] at hk
      rw [← hk]
      exact hi
    · exact fun hk => ⟨k, hk, by simp⟩
  unfold putD
  rw [e]
  by_cases hk : k ∈ K
  · rw [decide_eq_true hk, if_pos rfl, if_pos hk, List.map_map, ← h]
    refine List.map_congr_left fun p _ => ?_
    show (if _ then _ else p).1 = p.1
    split <;> rfl
  · rw [decide_eq_false hk, if_neg (by decide), if_neg hk, List.map_append, List.map_append, h]
    rfl
theorem putsD_keys : ∀ (qs : List Int) {kvs : List (PyData × PyData)} {K : List Int}, kvs.map (·.1) = K.map .int → K.Nodup → ∃ L : List Int, (putsD kvs (qs.map fun q => (PyData.int q, PyData.bool true))).map (·.1) = L.map .int ∧ L.Nodup ∧ ∀ z, z ∈ L ↔ z ∈ K ∨ z ∈ qs
  | [], kvs, K, h, nd => ⟨K, h, nd, fun z => by simp⟩
  | q :: qs, kvs, K, h, nd => by
    have h2 := putD_keys (k := q) h
    have nd2 : (if q ∈ K then K else K ++ [q]).Nodup := by
      split
      · exact nd
      · rename_i hq
        exact List.nodup_append.mpr ⟨nd, by simp, fun a ha b hb => by
          rw [List.mem_singleton] at hb
          rw [hb]
          exact fun z => hq (by rw [← z]; exact ha)⟩
    obtain ⟨L, e1, e2, e3⟩ := putsD_keys qs h2 nd2
    refine ⟨L, e1, e2, fun z => ?_⟩
    rw [e3 z]
    split
    · rename_i hq
      constructor
      · rintro (h | h)
        · exact .inl h
        · exact .inr (List.mem_cons_of_mem _ h)
      · rintro (h | h)
        · exact .inl h
        · rcases List.mem_cons.mp h with h | h
          · rw [h]; exact .inl hq
          · exact .inr h
    · simp only [List.mem_append, List.mem_cons, List.not_mem_nil, or_false]
      constructor
      · rintro ((h | h) | h)
        · exact .inl h
        · exact .inr (.inl h)
        · exact .inr (.inr h)
      · rintro (h | h | h)
        · exact .inl (.inl h)
        · exact .inl (.inr h)
        · exact .inr h
/-- as many keys as there are numbers below n: all are there -/
theorem covered_iff {n : Nat} {qs : List Int} (h : ∀ q ∈ qs, 0 ≤ q ∧ q < n) : decide ((putsD [] (qs.map fun q => (PyData.int q, PyData.bool true))).length = n) = (List.range n).all fun i => qs.contains (i : Int) := by
  obtain ⟨L, e1, nd, mem⟩ := putsD_keys qs (kvs := []) (K := []) rfl List.nodup_nil
  have el : (putsD [] (qs.map fun q => (PyData.int q, PyData.bool true))).length = L.length := by
    have := congrArg List.length e1
    rw [List.length_map, List.length_map] at this
    exact this
  rw [el, Bool.eq_iff_iff, decide_eq_true_eq, List.all_eq_true]
  have ndR : ((List.range n).map fun i : Nat => (i : Int)).Nodup := by
    rw [List.nodup_iff_pairwise_ne, List.pairwise_map]
    exact (List.nodup_iff_pairwise_ne.mp List.nodup_range).imp fun h z => h (by omega)
  have sub : ∀ z ∈ L, z ∈ (List.range n).map fun i : Nat => (i : Int) := fun z hz => by
    have := h z ((mem z).mp hz |>.resolve_left (by simp))
    exact List.mem_map.mpr ⟨z.toNat, List.mem_range.mpr (by omega), by omega⟩
  constructor
  · intro hl i hi
    have p : L.Perm ((List.range n).map fun i : Nat => (i : Int)) := by
      by_cases q : (i : Int) ∈ L
      · refine (List.perm_ext_iff_of_nodup nd ndR).mpr fun z => ⟨sub z, fun hz => ?_⟩
        -- all of them, by the number
        by_cases hzL : z ∈ L
        · exact hzL
        · have nd2 : (z :: L).Nodup := List.nodup_cons.mpr ⟨hzL, nd⟩
          have := List.Nodup.length_le_of_subset nd2 (l₂ := (List.range n).map fun i : Nat => (i : Int)) fun w hw => by
            rcases List.mem_cons.mp hw with e | e
            · rw [e]; exact hz
            · exact sub w e
          rw [List.length_cons, List.length_map, List.length_range] at this
          omega
      · have nd2 : ((i : Int) :: L).Nodup := List.nodup_cons.mpr ⟨q, nd⟩
        have := List.Nodup.length_le_of_subset nd2 (l₂ := (List.range n).map fun i : Nat => (i : Int)) fun w hw => by
          rcases List.mem_cons.mp hw with e | e
          · rw [e]; exact List.mem_map.mpr ⟨i, hi, rfl⟩
          · exact sub w e
        rw [List.length_cons, List.length_map, List.length_range] at this
        omega
    have hm := (p.mem_iff (a := (i : Int))).mpr (List.mem_map.mpr ⟨i, hi, rfl⟩)
    have := (mem i).mp hm |>.resolve_left (by simp)
    simpa using this
  · intro hall
    have p : L.Perm ((List.range n).map fun i : Nat => (i : Int)) := (List.perm_ext_iff_of_nodup nd ndR).mpr fun z => ⟨sub z, fun hz => by
      obtain ⟨i, hi, rfl⟩ := List.mem_map.mp hz
      have := hall i hi
      exact (mem _).mpr (.inr (by simpa using this))⟩
    have := p.length_eq
    rw [List.length_map, List.length_range] at this
    exact this
/-! ### one by the law's look -/
theorem all_congr {α : Type} {l : List α} {p q : α → Bool} (h : ∀ x ∈ l, p x = q x) : l.all p = l.all q := by
  induction l with
  | nil => rfl
  | cons x l ih => rw [List.all_cons, List.all_cons, h x List.mem_cons_self, ih fun y hy => h y (List.mem_cons_of_mem _ hy)]
theorem any_congr {α : Type} {l : List α} {p q : α → Bool} (h : ∀ x ∈ l, p x = q x) : l.any p = l.any q := by
  induction l with
  | nil => rfl
  | cons x l ih => rw [List.any_cons, List.any_cons, h x List.mem_cons_self, ih fun y hy => h y (List.mem_cons_of_mem _ hy)]
def hasQ (i : Int) : PyData → Bool
  | .tuple xs => (xs.map intV).contains i
  | _ => false
theorem allQs_any : ∀ {cs : List PyData} {i : Int}, (allQs cs).contains i = cs.any (hasQ i)
  | [], _ => rfl
  | c :: cs, i => by
    have e : allQs (c :: cs) = (match c with
      | .tuple xs => xs.map intV
      | _ => []) ++ allQs cs := rfl
    rw [e, List.any_cons, ← allQs_any]
    cases c with
    | tuple xs => simp [hasQ]
    | _ => simp [hasQ]
theorem plain_ints : ∀ ns : List Int, PyData.plainAll (ns.map .int) = true
  | [] => rfl
  | n :: ns => by
    show (true && PyData.plainAll (ns.map .int)) = true
    rw [plain_ints ns]
    rfl
theorem inOk_ints {i : Int} {ns : List Int} : inOk (.int i) (ns.map .int) = true := by
  unfold inOk
  rw [plain_ints]
  have d := PySem.W.depth_ints ns
  simp [PyData.plain, PyData.depth, d]
theorem any_int {i : Int} {ns : List Int} : ((ns.map PyData.int).any fun y => PyData.eqv y (.int i)) = ns.contains i := by
  rw [List.any_map]
  induction ns with
  | nil => rfl
  | cons n ns ih =>
    rw [List.any_cons, ih, List.contains_cons]
    have e : (PyData.eqv (PyData.int n) (.int i)) = (i == n) := by
      rw [eqv_ints, Bool.eq_iff_iff, decide_eq_true_eq, beq_iff_eq]
      exact eq_comm
    show (PyData.eqv (PyData.int n) (.int i) || _) = _
    rw [e]
theorem cm_in_t {i : Int} {ns : List Int} {Q : Bool → Prop} : cmX .isin (.int i) (.tuple (ns.map .int)) Q ↔ Q (ns.contains i) := by
  have e : cmpD .isin (.int i) (.tuple (ns.map .int)) = some (ns.contains i) := by
    show (if inOk (.int i) (ns.map .int) = true then some ((ns.map PyData.int).any fun y => PyData.eqv y (.int i)) else none) = _
    rw [if_pos inOk_ints, any_int]
  unfold cmX
  rw [e]
  simp only [Option.some.injEq, exists_eq_left']
theorem cm_in_l {i : Int} {ns : List Int} {Q : Bool → Prop} : cmX .isin (.int i) (.list (ns.map .int)) Q ↔ Q (ns.contains i) := by
  have e : cmpD .isin (.int i) (.list (ns.map .int)) = some (ns.contains i) := by
    show (if inOk (.int i) (ns.map .int) = true then some ((ns.map PyData.int).any fun y => PyData.eqv y (.int i)) else none) = _
    rw [if_pos inOk_ints, any_int]
  unfold cmX
  rw [e]
  simp only [Option.some.injEq, exists_eq_left']
theorem cm_notin_l {i : Int} {ns : List Int} {Q : Bool → Prop} : cmX .notin (.int i) (.list (ns.map .int)) Q ↔ Q (!ns.contains i) := by
  have e : cmpD .notin (.int i) (.list (ns.map .int)) = some (!ns.contains i) := by
    show (if inOk (.int i) (ns.map .int) = true then some (!(ns.map PyData.int).any fun y => PyData.eqv y (.int i)) else none) = _
    rw [if_pos inOk_ints, any_int]
  unfold cmX
  rw [e]
  simp only [Option.some.injEq, exists_eq_left']
theorem rng_1 {n : Nat} (h : n ≤ 1000000) : rngD [.int n] = some ((List.range n).map fun i : Nat => .int (i : Int)) := by
  show (if -1000000 ≤ (n : Int) ∧ (n : Int) ≤ 1000000 then some ((List.range (n : Int).toNat).map fun i : Nat => PyData.int (i : Int)) else none) = _
  rw [if_pos (by omega), Int.toNat_natCast]
theorem one_s {Γ : List Callee} {c1 c2 : Nat} {m1 m2 : Mng} (g1 : Γ[c1]? = some ⟨[], m1⟩) (h1 : BetweenS m1) (g2 : Γ[c2]? = some ⟨[], m2⟩) (h2 : RisesS m2) : ScenS ((F_law_is_one c1 c2).mng Γ) := by
  intro x hs
  refine (mng_T (P := fun d o => d = .bool (isScen x)) rfl).mpr ?_
  unfold F_law_is_one
  walk_at "hx"
  have ne2 : ∀ {k : Bool}, isScen x = k → ∀ ρ, endP [] (fun d o => d = PyData.bool (isScen x)) (.bool k) ρ := fun e ρ => ⟨rfl, by rw [e]⟩
  cases x with
  | tuple xs =>
    refine ⟨fun _ => ?_, fun h => (by cases h)⟩
    walk_at "hx"
    match xs, hs with
    | [], _ => exact ⟨fun h => absurd h (by decide), fun _ => ne2 rfl _⟩
    | [_], _ => exact ⟨fun h => absurd h (by simp), fun _ => ne2 rfl _⟩
    | a :: b :: c :: r, _ => exact ⟨fun h => absurd h (by simp only [List.length_cons]; omega), fun _ => ne2 rfl _⟩
    | [s, c], hs =>
      refine ⟨fun _ => ?_, fun h => absurd rfl h⟩
      walk_at "hx"
      cases s with
      | tuple ss =>
        refine ⟨fun _ => ?_, fun h => (by cases h)⟩
        walk_at "hx"
        have fs : ∀ {ρ}, isSizes (.tuple ss) = false → endP [] (fun d o => d = PyData.bool (isScen (.tuple [.tuple ss, c]))) (.bool false) ρ := fun {ρ} h => ne2 (by show (isSizes (.tuple ss) && _) = false; rw [h]; rfl) ρ
        have es : isSizes (.tuple ss) = (decide (1 ≤ ss.length ∧ ss.length ≤ 8) && allBet 2 4 ss && decide (prodI (ss.map intV) ≤ 256)) := rfl
        refine ⟨fun ha => ⟨fun hb => ?_, fun hb => fs (by rw [es, decide_eq_false (by omega)]; rfl)⟩, fun ha => fs (by rw [es, decide_eq_false (by omega)]; rfl)⟩
        have h8 : decide (1 ≤ ss.length ∧ ss.length ≤ 8) = true := decide_eq_true (by omega)
        refine comp_M (fun x => .bool (isBet 2 4 x)) (fun x hx => ⟨_, rfl, ?_⟩) (by unfold lim; omega) ?_
        · walk_at "hx"
          exact call_0 g1 ((h1 x 2 4).mono fun p hp => ⟨hp, rfl⟩)
        · rw [k_all (f := isBet 2 4) fun _ _ => rfl]
          walk_at "hx"
          refine ⟨fun eb => ?_, fun eb => fs (by rw [es]; have eb' : allBet 2 4 ss = false := eb; rw [eb', Bool.and_false, Bool.false_and])⟩
          have eb' : allBet 2 4 ss = true := eb
          obtain ⟨ei, ek⟩ := bet_ints eb'
          have mo : Modest (ss.map intV) := ⟨by rw [List.length_map]; omega, fun n hn => by have := ek n hn; omega⟩
          refine loop_T (I := fun i ρ => ∃ o, ρ = [some (.tuple [.tuple ss, c]), some (.int (prodI ((ss.map intV).take i))), o, some (.tuple ss), some c, none, none, none, none]) ⟨_, rfl⟩ ?_ ?_
          · rintro i y ρ hy ⟨o, rfl⟩
            have hy' := hy
            rw [ei, List.getElem?_map] at hy'
            obtain ⟨n, hn, rfl⟩ := Option.map_eq_some_iff.mp hy'
            refine ⟨_, rfl, ?_⟩
            walk_at "hx"
            have hi := (List.getElem?_eq_some_iff.mp hn).1
            have tk : (ss.map intV).take (i + 1) = (ss.map intV).take i ++ [n] := by
              rw [List.take_succ, hn]
              rfl
            have m2 : Modest ((ss.map intV).take i) := ⟨by rw [List.length_take]; have := mo.1; omega, fun z hz => mo.2 z (List.mem_of_mem_take hz)⟩
            have hz := mo.2 n (List.mem_of_getElem? hn)
            refine ⟨?_, some (.int n), ?_⟩
            · unfold bitsOk
              have := modest_lg m2
              have := lg_of (x := n) (k := 20) (by decide) (by omega)
              simp only [decide_eq_true_eq]
              omega
            · rw [tk, prodI_snoc]
          · rintro ρ ⟨o, rfl⟩
            have tkl : (ss.map intV).take ss.length = ss.map intV := List.take_of_length_le (by rw [List.length_map]; exact Nat.le_refl _)
            rw [tkl]
            walk_at "hx"
            refine ⟨fun hp => fs (by rw [es, decide_eq_false (show ¬ prodI (ss.map intV) ≤ 256 by omega), Bool.and_false]), fun hp => ?_⟩
            have et : isSizes (.tuple ss) = true := by rw [es, h8, eb', decide_eq_true (show prodI (ss.map intV) ≤ 256 by omega)]; rfl
            cases c with
            | tuple cs =>
              have hc := hs.2 (.tuple cs) (by simp)
              have hall : ∀ {k : Bool}, (decide (1 ≤ cs.length ∧ cs.length ≤ 28) && cs.all (isCtx ss.length) && asc cs && decide ((putsD [] ((allQs cs).map fun q => (PyData.int q, PyData.bool true))).length = ss.length)) = k → isScen (.tuple [.tuple ss, .tuple cs]) = k := fun e => by
                show (isSizes (.tuple ss) && (decide (1 ≤ cs.length ∧ cs.length ≤ 28) && cs.all (isCtx ss.length) && asc cs && decide ((putsD [] ((allQs cs).map fun q => (PyData.int q, PyData.bool true))).length = ss.length))) = _
                rw [et, e]
                rfl
              have fl : ∀ ρ, ¬ (1 ≤ cs.length ∧ cs.length ≤ 28) → endP [] (fun d o => d = PyData.bool (isScen (.tuple [.tuple ss, .tuple cs]))) (.bool false) ρ := fun ρ h => ne2 (hall (by rw [decide_eq_false h]; rfl)) ρ
              refine ⟨fun _ => ?_, fun h => (by cases h)⟩
              walk_at "hx"
              refine ⟨fun ha => ⟨fun hb => ?_, fun hb => fl _ (by omega)⟩, fun ha => fl _ (by omega)⟩
              have h28 : decide (1 ≤ cs.length ∧ cs.length ≤ 28) = true := decide_eq_true (by omega)
              have hl : cs.length ≤ lim := hc.1
              refine comp_M (fun c => .bool (isCtx ss.length c)) (fun c hcm => ⟨_, rfl, ?_⟩) hl ?_
              · walk_at "hx"
                refine call_0 g2 ((h2 c (ss.length - 1) (hc.2 c hcm)).mono fun p hp => ⟨?_, rfl⟩)
                rw [hp, show (ss.length : Int) - 1 + 1 = ss.length by omega]
              · rw [k_all (f := isCtx ss.length) fun _ _ => rfl]
                walk_at "hx"
                refine ⟨fun ek2 => ?_, fun ek2 => ne2 (hall (by rw [h28, ek2]; rfl)) _⟩
                rw [sl_1]
                refine ⟨_, zip_tt, ?_⟩
                refine asc_comp hl (ctx_ascOk ek2) (by decide) (by simp) (by simp) ?_
                walk_at "hx"
                refine ⟨fun ea => ?_, fun ea => ne2 (hall (by rw [h28, ek2, ea]; rfl)) _⟩
                rw [rng_1 (by omega)]
                refine ⟨_, rfl, ?_⟩
                have hq : ∀ q ∈ allQs cs, 0 ≤ q ∧ q < ss.length := fun q hq => by
                  obtain ⟨z, hz, hqz⟩ := List.mem_flatMap.mp hq
                  obtain ⟨ys, rfl, _, hb2, _⟩ := ctx_look (List.all_eq_true.mp ek2 z hz)
                  have := (bet_ints hb2).2 q hqz
                  omega
                have hcov := covered_iff hq
                refine comp_M (fun x => .bool (cs.any (hasQ (intV x)))) (fun x hx => ⟨_, rfl, ?_⟩) (by rw [List.length_map, List.length_range]; unfold lim; omega) ?_
                · obtain ⟨i, hi, rfl⟩ := List.mem_map.mp hx
                  walk_at "hx"
                  refine comp_M (fun c => .bool (hasQ i c)) (fun z hz => ⟨_, rfl, ?_⟩) hl ?_
                  · obtain ⟨ys, rfl, _, hb2, _⟩ := ctx_look (List.all_eq_true.mp ek2 z hz)
                    walk_at "hx"
                    conv => rw [(bet_ints hb2).1]
                    rw [cm_in_t]
                    show _ = (((ys.map intV).map PyData.int).map intV).contains _
                    rw [List.map_map]
                    have e : (intV ∘ PyData.int) = id := funext fun _ => rfl
                    rw [e, List.map_id]
                  · rw [k_any (f := hasQ i) fun _ _ => rfl]
                    first
                      | exact ⟨rfl, rfl⟩
                      | rfl
                · rw [k_all (f := fun x => cs.any (hasQ (intV x))) fun _ _ => rfl]
                  refine ne2 (hall ?_) _
                  rw [h28, ek2, ea, hcov, List.all_map]
                  show (List.range ss.length).all _ = (List.range ss.length).all _
                  refine all_congr fun i hi => ?_
                  exact allQs_any
            | _ => exact ⟨fun h => (by cases h), fun _ => ne2 (by show (isSizes _ && false) = false; rw [Bool.and_false]) _⟩
      | _ => exact ⟨fun h => (by cases h), fun _ => ne2 rfl _⟩
  | _ => exact ⟨fun h => (by cases h), fun _ => ne2 rfl _⟩
end Hx

set_option Elab.async false
set_option linter.all false
set_option maxRecDepth 100000
set_option maxHeartbeats 4000000
/-! P7: sorted. -/
namespace Hx
open PySem
/-- a tuple of ints -/
def tI (l : List Int) : PyData := .tuple (l.map .int)
theorem sortL_perm (xs : List PyData) : (sortL xs).Perm xs := List.mergeSort_perm _ _
theorem sortL_pw (xs : List PyData) : (sortL xs).Pairwise fun a b => PySem.W.dataLt b a = false := by
  have h := List.pairwise_mergeSort (le := fun a b => !PySem.W.dataLt b a) (fun a b c h1 h2 => by
    simp only [Bool.not_eq_true'] at h1 h2 ⊢
    cases h : PySem.W.dataLt c a with
    | false => rfl
    | true =>
      rcases PyProof.Rows.lex_negTrans (O := PyProof.Rows.itemOrd) (PySem.W.keyToks c) (PySem.W.keyToks b) (PySem.W.keyToks a) h with k | k
      · have : PySem.W.dataLt c b = true := k
        rw [h2] at this
        cases this
      · have : PySem.W.dataLt b a = true := k
        rw [h1] at this
        cases this) (fun a b => by
    cases h : PySem.W.dataLt b a with
    | false => rfl
    | true =>
      cases k : PySem.W.dataLt a b with
      | false => rfl
      | true =>
        have := PyProof.Rows.lex_trans (O := PyProof.Rows.itemOrd) (PySem.W.keyToks b) (PySem.W.keyToks a) (PySem.W.keyToks b) h k
        rw [PyProof.Rows.lex_irrefl] at this
        cases this) xs
  exact h.imp fun h => by simpa using h
/-- data that can be put in order, different where their signs differ -/
structure OrdOk (xs : List PyData) : Prop where
  inj : ∀ x ∈ xs, ∀ y ∈ xs, PySem.W.keyToks x = PySem.W.keyToks y → x = y
  lt : ∀ x ∈ xs, ∀ y ∈ xs, cmpD .lt x y = some (PySem.W.dataLt x y)
theorem asc_of : ∀ {ys : List PyData}, OrdOk ys → ys.Nodup → (ys.Pairwise fun a b => PySem.W.dataLt b a = false) → asc ys = true
  | [], _, _, _ => rfl
  | [x], _, _, _ => rfl
  | x :: y :: r, o, nd, pw => by
    have ih := asc_of (ys := y :: r) ⟨fun a ha b hb => o.inj a (List.mem_cons_of_mem _ ha) b (List.mem_cons_of_mem _ hb), fun a ha b hb => o.lt a (List.mem_cons_of_mem _ ha) b (List.mem_cons_of_mem _ hb)⟩ (List.nodup_cons.mp nd).2 (List.pairwise_cons.mp pw).2
    show (ltV x y && asc (y :: r)) = true
    rw [ih, Bool.and_true]
    unfold ltV
    rw [o.lt x (by simp) y (by simp)]
    have h1 := (List.pairwise_cons.mp pw).1 y (by simp)
    cases h : PySem.W.dataLt x y with
    | true => rfl
    | false =>
      have e := PyProof.Rows.lex_total (O := PyProof.Rows.itemOrd) (PySem.W.keyToks x) (PySem.W.keyToks y) h h1
      have := o.inj x (by simp) y (by simp) e
      exact absurd this fun z => (List.nodup_cons.mp nd).1 (by rw [z]; simp)
theorem OrdOk.perm {xs ys : List PyData} (o : OrdOk xs) (p : ys.Perm xs) : OrdOk ys := ⟨fun x hx y hy => o.inj x (p.mem_iff.mp hx) y (p.mem_iff.mp hy), fun x hx y hy => o.lt x (p.mem_iff.mp hx) y (p.mem_iff.mp hy)⟩
theorem sort_asc {xs : List PyData} (o : OrdOk xs) (nd : xs.Nodup) : asc (sortL xs) = true :=
  asc_of (o.perm (sortL_perm xs)) ((sortL_perm xs).nodup_iff.mpr nd) (sortL_pw xs)
theorem lt_toks_int {a b : Int} (h : PySem.W.keyToks (.int a) = PySem.W.keyToks (.int b)) : a = b := by
  simpa [PySem.W.keyToks] using h
theorem ord_ints (ns : List Int) : OrdOk (ns.map .int) := by
  refine ⟨fun x hx y hy h => ?_, fun x hx y hy => ?_⟩
  · obtain ⟨a, _, rfl⟩ := List.mem_map.mp hx
    obtain ⟨b, _, rfl⟩ := List.mem_map.mp hy
    rw [lt_toks_int h]
  · obtain ⟨a, _, rfl⟩ := List.mem_map.mp hx
    obtain ⟨b, _, rfl⟩ := List.mem_map.mp hy
    rw [PySem.W.dataLt_int]
    rfl
theorem toks_inj : ∀ {xs ys : List Int}, PySem.W.keyToksAll (xs.map .int) = PySem.W.keyToksAll (ys.map .int) → xs = ys
  | [], [], _ => rfl
  | [], y :: ys, h => by simp [PySem.W.keyToksAll] at h
  | x :: xs, [], h => by simp [PySem.W.keyToksAll] at h
  | x :: xs, y :: ys, h => by
    simp only [List.map_cons, PySem.W.keyToksAll, PySem.W.keyToks, List.cons_append, List.nil_append, List.cons.injEq, Sum.inl.injEq, true_and] at h
    rw [h.1, toks_inj h.2]
theorem tI_inj {a b : List Int} (h : tI a = tI b) : a = b := by
  have h' : a.map PyData.int = b.map PyData.int := by
    unfold tI at h
    injection h
  have := congrArg (List.map intV) h'
  rw [List.map_map, List.map_map] at this
  have e : (intV ∘ PyData.int) = id := funext fun _ => rfl
  rw [e, List.map_id, List.map_id] at this
  exact this
theorem depth_tI (a : List Int) : (tI a).depth ≤ 1 := by
  have := PySem.W.depth_ints a
  unfold tI
  simp [PyData.depth, this]
theorem alike_tI (a b : List Int) : PySem.W.alike (tI a) (tI b) = true := by
  unfold tI
  rw [PySem.W.alike]
  exact PySem.W.alike_ints a b
theorem lt_tI (a b : List Int) : cmpD .lt (tI a) (tI b) = some (PySem.W.dataLt (tI a) (tI b)) := by
  have ok : ltOk (tI a) (tI b) = true := by
    unfold ltOk
    have := depth_tI a
    rw [alike_tI]
    have e : decide (min (tI a).depth (tI b).depth ≤ 60) = true := decide_eq_true (by omega)
    rw [e]
    rfl
  show (onInts (fun a b => some (decide (a < b))) (if ltOk (tI a) (tI b) = true then some (PySem.W.dataLt (tI a) (tI b)) else none) (tI a) (tI b)) = _
  rw [if_pos ok]
  rfl
theorem ord_tuples (cs : List (List Int)) : OrdOk (cs.map tI) := by
  refine ⟨fun x hx y hy h => ?_, fun x hx y hy => ?_⟩
  · obtain ⟨a, _, rfl⟩ := List.mem_map.mp hx
    obtain ⟨b, _, rfl⟩ := List.mem_map.mp hy
    have h' : PySem.W.keyToksAll (a.map .int) = PySem.W.keyToksAll (b.map .int) := by
      simpa [tI, PySem.W.keyToks] using h
    rw [toks_inj h']
  · obtain ⟨a, _, rfl⟩ := List.mem_map.mp hx
    obtain ⟨b, _, rfl⟩ := List.mem_map.mp hy
    exact lt_tI a b
theorem depthAll_tI : ∀ cs : List (List Int), PyData.depthAll (cs.map tI) ≤ 1
  | [] => by simp [PyData.depthAll]
  | c :: cs => by
    have h1 := depth_tI c
    have h2 := depthAll_tI cs
    rw [List.map_cons]
    simp only [PyData.depthAll]
    omega
theorem bi_sorted_ints {ns : List Int} {P : PyData → Prop} (hl : ns.length ≤ lim) : biX .sorted [.list (ns.map .int)] P ↔ P (.list (sortL (ns.map .int))) := by
  have e : sortD (ns.map .int) = some (sortL (ns.map .int)) := by
    unfold sortD
    rw [if_pos]
    refine ⟨?_, ?_, by rw [List.length_map]; exact hl⟩
    · unfold alikeB
      rw [Bool.and_eq_true]
      refine ⟨List.all_eq_true.mpr fun x hx => List.all_eq_true.mpr fun y hy => ?_, ?_⟩
      · obtain ⟨a, _, rfl⟩ := List.mem_map.mp hx
        obtain ⟨b, _, rfl⟩ := List.mem_map.mp hy
        rfl
      · rw [PySem.W.depth_ints]
        rfl
    · unfold sortB
      rw [Bool.or_eq_true]
      refine .inr (List.all_eq_true.mpr fun x hx => ?_)
      obtain ⟨a, _, rfl⟩ := List.mem_map.mp hx
      rfl
  unfold biX
  show (∃ d, (sortD (ns.map .int)).map PyData.list = some d ∧ P d) ↔ _
  rw [e]
  simp
theorem bi_sorted_tuples {cs : List (List Int)} {P : PyData → Prop} (hl : cs.length ≤ lim) (hn : ∀ c ∈ cs, c ≠ []) : biX .sorted [.list (cs.map tI)] P ↔ P (.list (sortL (cs.map tI))) := by
  have e : sortD (cs.map tI) = some (sortL (cs.map tI)) := by
    unfold sortD
    rw [if_pos]
    refine ⟨?_, ?_, by rw [List.length_map]; exact hl⟩
    · unfold alikeB
      rw [Bool.and_eq_true]
      refine ⟨List.all_eq_true.mpr fun x hx => List.all_eq_true.mpr fun y hy => ?_, ?_⟩
      · obtain ⟨a, _, rfl⟩ := List.mem_map.mp hx
        obtain ⟨b, _, rfl⟩ := List.mem_map.mp hy
        exact alike_tI a b
      · have := depthAll_tI cs
        rw [decide_eq_true_eq]
        omega
    · unfold sortB
      rw [Bool.or_eq_true]
      refine .inl (List.all_eq_true.mpr fun x hx => ?_)
      obtain ⟨a, ha, rfl⟩ := List.mem_map.mp hx
      cases a with
      | nil => exact absurd rfl (hn _ ha)
      | cons n a => rfl
  unfold biX
  show (∃ d, (sortD (cs.map tI)).map PyData.list = some d ∧ P d) ↔ _
  rw [e]
  simp
/-- what sorted gives are tuples again -/
theorem sort_tuples (cs : List (List Int)) : ∃ ds : List (List Int), sortL (cs.map tI) = ds.map tI ∧ ds.Perm cs := by
  have p := sortL_perm (cs.map tI)
  refine ⟨cs.mergeSort fun a b => !PySem.W.dataLt (tI b) (tI a), ?_, List.mergeSort_perm _ _⟩
  unfold sortL
  rw [List.map_mergeSort]
  intro a _ b _
  rfl
theorem sort_ints (ns : List Int) : ∃ ms : List Int, sortL (ns.map .int) = ms.map .int ∧ ms.Perm ns := by
  refine ⟨ns.mergeSort fun a b => !PySem.W.dataLt (.int b) (.int a), ?_, List.mergeSort_perm _ _⟩
  unfold sortL
  rw [List.map_mergeSort]
  intro a _ b _
  rfl
theorem nodup_map {α β : Type} {f : α → β} (hf : ∀ a b, f a = f b → a = b) {l : List α} (h : l.Nodup) : (l.map f).Nodup := by
  rw [List.nodup_iff_pairwise_ne, List.pairwise_map]
  exact (List.nodup_iff_pairwise_ne.mp h).imp fun h z => h (hf _ _ z)
end Hx

set_option Elab.async false
set_option linter.all false
set_option maxRecDepth 100000
set_option maxHeartbeats 4000000
/-! P8: drawn sizes, contexts; rows. -/
namespace Hx
open PySem
local macro_rules | `(tactic| walk_at "hx") => `(tactic| simp only [E_v, E_lit, E_con, E_edct, E_tup, E_lst, E_neg, E_bin, E_cmp, E_chain, E_isN, E_not, E_and, E_or, EAnd_nil, EAnd_cons, EOr_nil, EOr_cons, E_ite, E_call, E_callk, E_bi, E_mkt, E_mkl, E_isa, E_idx, E_sl, E_rev, E_ixof, E_dzip, E_dget, E_comp, E_comp2, E_dcomp2, E_pop, Es_nil, Es_cons, Et_val, Et_not, Et_and, Et_or, ECs_nil, ECs_cons, EDs_nil, EDs_cons, EO_non, EO_som, EI_seq, EI_rng, EI_zip, EI_enm,
  St_asg, St_unp, St_setix, St_aug, St_ex, St_app, St_ext, St_ret, St_if, St_for, St_pas, Ss_nil, Ss_cons, Lit.d, List.getElem?_cons_zero, List.getElem?_cons_succ, List.set_cons_zero, List.set_cons_succ, List.length_cons, List.length_nil, List.map_cons, List.map_nil, List.replicate_succ, List.replicate_zero, List.cons_append, List.nil_append, Option.some.injEq, exists_eq_left', exists_eq_left, PyData.int.injEq, PyData.list.injEq, PyData.tuple.injEq, PyData.bool.injEq, PyData.str.injEq,
  ifB_tt, ifB_ff, ifB_dec, ifB_not, op_add, op_sub, op_mul, op_mod, op_fdiv, op_pow, op_addt, op_addl, cm_lt, cm_le, cm_gt, cm_ge, cm_eq, cm_ne, b_bool, t_bool, bi_len_l, bi_len_t, bi_tuple_l, bi_tuple_t, bi_list_l, bi_list_t, bi_int_i, bi_int_b, bi_absI, ix_list, ix_tuple, at_0, at_1, at_2, at_3, Bool.not_true, Bool.not_false, Nat.reduceSub, Nat.reduceAdd, neg_i, int_i, items_l, items_t, items_ll, exists_const, exists_and_left, ix30, ix31, ix32, own_v, own_tup, wipe_nil, wipe_cons, bindT_v, bindT_tup, setAll_nil, setAll_cons, true_and, and_true])
def TakeS (m : Mng) : Prop := ∀ (B : Nat) (d : PyData) (n : Int), Pot B d → B ≤ potLim → 0 < n → n < 2 ^ 8000 → T (fun p => TakeP B n p.1 p.2) (m [d, .int n])
theorem take_s {Γ : List Callee} : TakeS (F_law_take.mng Γ) := fun B d n hp hB h0 hn => take_ok hp hB h0 hn
section
variable {Γ : List Callee} {ρ : Env} {P : PyData → Env → Prop}
theorem call_take {c i B : Nat} {m : Mng} {es : IEs} {d0 : PyData} {n : Int} (hg : Γ[c]? = some ⟨[0], m⟩) (hm : TakeS m) (hp : Pot B d0) (hB : B ≤ potLim) (h0 : 0 < n) (hn : n < 2 ^ 100) (he : argV es 0 = some i) (hd : ρ[i]? = some (some d0))
    (hP : ∀ r d', 0 ≤ r → r < n → Pot (B + 1) d' → P (.int r) (ρ.set i (some d'))) : callX Γ c es [d0, .int n] ρ P := by
  refine call_1 hg he hd ((hm B d0 n hp hB h0 (Int.lt_trans hn (by decide))).mono fun p hp => ?_)
  obtain ⟨r, d', e1, e2, h1, h2, h3⟩ := hp
  refine ⟨d', e2, ?_⟩
  rw [e1]
  exact hP r d' h1 h2 h3
theorem rng_i {n : Int} (h0 : -1000000 ≤ n) (h : n ≤ 1000000) : rngD [.int n] = some ((List.range n.toNat).map fun i : Nat => .int (i : Int)) := by
  show (if -1000000 ≤ n ∧ n ≤ 1000000 then some ((List.range n.toNat).map fun i : Nat => PyData.int (i : Int)) else none) = _
  rw [if_pos ⟨h0, h⟩]
theorem rng_get {n i : Nat} {x : PyData} (h : ((List.range n).map fun i : Nat => PyData.int (i : Int))[i]? = some x) : i < n ∧ x = .int (i : Int) := by
  rw [List.getElem?_map] at h
  obtain ⟨j, hj, rfl⟩ := Option.map_eq_some_iff.mp h
  obtain ⟨h1, h2⟩ := List.getElem?_eq_some_iff.mp hj
  rw [List.getElem_range] at h2
  rw [List.length_range] at h1
  subst h2
  exact ⟨h1, rfl⟩
end
/-! ### sizes -/
structure SizesP (most full : Int) (l : List Int) : Prop where
  len1 : 1 ≤ l.length
  len2 : l.length ≤ most
  all : ∀ s ∈ l, 2 ≤ s ∧ s ≤ 4
  prod : prodI l ≤ full
def SizesS (m : Mng) : Prop := ∀ (B : Nat) (d : PyData) (most full : Int), Pot B d → B + 100 ≤ potLim → 1 ≤ most → most ≤ 8 → 2 ≤ full → full ≤ 1000000 → T (fun p => ∃ l d', p.1 = tI l ∧ p.2 = [d'] ∧ SizesP most full l ∧ Pot (B + 10) d') (m [d, .int most, .int full])
theorem six_at {r : Int} (h0 : 0 ≤ r) (h : r < 6) : ∃ s : Int, L2.atI [PyData.int 2, .int 2, .int 2, .int 3, .int 2, .int 4] r = some (.int s) ∧ 2 ≤ s ∧ s ≤ 4 := by
  have : r = 0 ∨ r = 1 ∨ r = 2 ∨ r = 3 ∨ r = 4 ∨ r = 5 := by omega
  rcases this with rfl | rfl | rfl | rfl | rfl | rfl
  · exact ⟨2, rfl, by decide, by decide⟩
  · exact ⟨2, rfl, by decide, by decide⟩
  · exact ⟨2, rfl, by decide, by decide⟩
  · exact ⟨3, rfl, by decide, by decide⟩
  · exact ⟨2, rfl, by decide, by decide⟩
  · exact ⟨4, rfl, by decide, by decide⟩
theorem prod_pos {l : List Int} (h : ∀ s ∈ l, 2 ≤ s ∧ s ≤ 4) : 1 ≤ prodI l := by
  have go : ∀ (l : List Int) (a : Int), (∀ s ∈ l, 2 ≤ s ∧ s ≤ 4) → 1 ≤ a → 1 ≤ l.foldl (· * ·) a := by
    intro l
    induction l with
    | nil => intro a _ h; exact h
    | cons s l ih =>
      intro a hs ha
      have h2 := hs s List.mem_cons_self
      refine ih (a * s) (fun t ht => hs t (List.mem_cons_of_mem _ ht)) ?_
      have : a * 1 ≤ a * s := Int.mul_le_mul_of_nonneg_left (by omega) (by omega)
      omega
  exact go l 1 h (by decide)
theorem sizes_s {Γ : List Callee} {c : Nat} {m : Mng} (hg : Γ[c]? = some ⟨[0], m⟩) (hm : TakeS m) : SizesS ((F_law_sizes c).mng Γ) := by
  intro B d most full hp hB m1 m8 f2 fl
  refine (mng_T (P := fun x o => ∃ l d', x = tI l ∧ o = [d'] ∧ SizesP most full l ∧ Pot (B + 10) d') rfl).mpr ?_
  unfold F_law_sizes
  walk_at "hx"
  refine call_take hg hm hp (by omega) (by omega) (by omega) rfl rfl fun r d' r0 r1 hp' => ?_
  walk_at "hx"
  rw [rng_i (by omega) (by omega)]
  refine ⟨_, rfl, ?_⟩
  refine loop_T (I := fun i ρ => ∃ pd l f o4 o5, ρ = [some pd, some (.int most), some (.int f), some (.list (l.map .int)), o4, o5] ∧ Pot (B + 1 + i) pd ∧ l.length ≤ i ∧ (0 < i → 0 < l.length) ∧ (∀ s ∈ l, 2 ≤ s ∧ s ≤ 4) ∧ 1 ≤ f ∧ (i = 0 → f = full) ∧ prodI l * f ≤ full) ?_ ?_ ?_
  · exact ⟨d', [], full, none, none, rfl, hp', Nat.zero_le _, fun h => absurd h (by omega), fun s hs => (by cases hs), by omega, fun _ => rfl, by show 1 * full ≤ full; omega⟩
  · rintro i x ρ hx ⟨pd, l, f, o4, o5, rfl, q1, q2, q3, q4, q5, q6, q7⟩
    obtain ⟨hi, rfl⟩ := rng_get hx
    refine ⟨_, rfl, ?_⟩
    walk_at "hx"
    refine call_take hg hm q1 (by omega) (by omega) (by omega) rfl rfl fun r2 d2 r20 r21 hp2 => ?_
    obtain ⟨s, es, s2, s4⟩ := six_at r20 r21
    walk_at "hx"
    rw [es]
    refine ⟨_, rfl, ?_⟩
    walk_at "hx"
    -- a size t is added, or none
    have add : ∀ (t : Int), 2 ≤ t → t ≤ 4 → t ≤ f → ∃ pd' l' f' o4 o5, [some d2, some (.int most), some (.int (f / t)), some (.list (l.map .int ++ [.int t])), some (.int (i : Int)), some (.int t)] = [some pd', some (.int most), some (.int f'), some (.list (l'.map PyData.int)), o4, o5] ∧ Pot (B + 1 + (i + 1)) pd' ∧ l'.length ≤ i + 1 ∧ (0 < i + 1 → 0 < l'.length) ∧ (∀ s ∈ l', 2 ≤ s ∧ s ≤ 4) ∧ 1 ≤ f' ∧ (i + 1 = 0 → f' = full) ∧ prodI l' * f' ≤ full := fun t t2 t4 tf => by
      refine ⟨d2, l ++ [t], f / t, _, _, by rw [List.map_append]; rfl, hp2, by rw [List.length_append, List.length_singleton]; omega, fun _ => by simp, fun s hs => ?_, ?_, fun h => absurd h (by omega), ?_⟩
      · rcases List.mem_append.mp hs with h | h
        · exact q4 s h
        · rw [List.mem_singleton.mp h]; exact ⟨t2, t4⟩
      · exact (Int.le_ediv_iff_mul_le (by omega)).mpr (by omega)
      · rw [prodI_snoc, Int.mul_assoc]
        have h1 := prod_pos q4
        have h2 : t * (f / t) ≤ f := Int.mul_ediv_self_le (by omega)
        have := Int.mul_le_mul_of_nonneg_left h2 (show 0 ≤ prodI l by omega)
        omega
    have len : (l.map PyData.int).length < lim := by rw [List.length_map]; unfold lim; omega
    refine ⟨fun h1 => ⟨fun h2 => ?_, fun h2 => ?_⟩, fun h1 => ⟨fun h2 => ?_, fun h2 => ?_⟩⟩
    · exact ⟨len, ⟨by decide, by decide⟩, add 2 (by decide) (by decide) h2⟩
    · have hi0 : i ≠ 0 := fun z => by have := q6 z; omega
      exact ⟨d2, l, f, _, _, rfl, hp2, by omega, fun _ => q3 (by omega), q4, q5, fun h => absurd h (by omega), q7⟩
    · exact ⟨len, ⟨by omega, lg_of (by decide) (by omega)⟩, add s s2 s4 h2⟩
    · exact absurd h1 (by omega)
  · rintro ρ ⟨pd, l, f, o4, o5, rfl, q1, q2, q3, q4, q5, q6, q7⟩
    rw [List.length_map, List.length_range] at q1 q2 q3
    walk_at "hx"
    refine ⟨?_, l, rfl, pd, rfl, ⟨by have := q3 (by omega); omega, by omega, q4, ?_⟩, q1.mono (by omega)⟩
    · obtain ⟨a, b, c, rfl, _⟩ := q1.ex
      rfl
    · have h1 := prod_pos q4
      have := Int.mul_le_mul_of_nonneg_left q5 (show 0 ≤ prodI l by omega)
      omega
end Hx

set_option Elab.async false
set_option linter.all false
set_option maxRecDepth 100000
set_option maxHeartbeats 4000000
/-! P9: drawn contexts; rows. -/
namespace Hx
open PySem
local macro_rules | `(tactic| walk_at "hx") => `(tactic| simp only [E_v, E_lit, E_con, E_edct, E_tup, E_lst, E_neg, E_bin, E_cmp, E_chain, E_isN, E_not, E_and, E_or, EAnd_nil, EAnd_cons, EOr_nil, EOr_cons, E_ite, E_call, E_callk, E_bi, E_mkt, E_mkl, E_isa, E_idx, E_sl, E_rev, E_ixof, E_dzip, E_dget, E_comp, E_comp2, E_dcomp2, E_pop, Es_nil, Es_cons, Et_val, Et_not, Et_and, Et_or, ECs_nil, ECs_cons, EDs_nil, EDs_cons, EO_non, EO_som, EI_seq, EI_rng, EI_zip, EI_enm,
  St_asg, St_unp, St_setix, St_aug, St_ex, St_app, St_ext, St_ret, St_if, St_for, St_pas, Ss_nil, Ss_cons, Lit.d, List.getElem?_cons_zero, List.getElem?_cons_succ, List.set_cons_zero, List.set_cons_succ, List.length_cons, List.length_nil, List.map_cons, List.map_nil, List.replicate_succ, List.replicate_zero, List.cons_append, List.nil_append, Option.some.injEq, exists_eq_left', exists_eq_left, PyData.int.injEq, PyData.list.injEq, PyData.tuple.injEq, PyData.bool.injEq, PyData.str.injEq,
  ifB_tt, ifB_ff, ifB_dec, ifB_not, op_add, op_sub, op_mul, op_mod, op_fdiv, op_pow, op_addt, op_addl, cm_lt, cm_le, cm_gt, cm_ge, cm_eq, cm_ne, b_bool, t_bool, bi_len_l, bi_len_t, bi_tuple_l, bi_tuple_t, bi_list_l, bi_list_t, bi_int_i, bi_int_b, bi_absI, ix_list, ix_tuple, at_0, at_1, at_2, at_3, Bool.not_true, Bool.not_false, Nat.reduceSub, Nat.reduceAdd, neg_i, int_i, items_l, items_t, items_ll, exists_const, exists_and_left, ix30, ix31, ix32, own_v, own_tup, wipe_nil, wipe_cons, bindT_v, bindT_tup, setAll_nil, setAll_cons, true_and, and_true])
structure CtxP (count width : Int) (l : List Int) : Prop where
  ne : l ≠ []
  len : l.length ≤ width
  bet : ∀ q ∈ l, 0 ≤ q ∧ q < count
  asc : asc (l.map .int) = true
def ContextS (m : Mng) : Prop := ∀ (B : Nat) (d : PyData) (count width : Int), Pot B d → B + 100 ≤ potLim → 1 ≤ count → count ≤ 1000000 → 1 ≤ width → width ≤ 50 → T (fun p => ∃ l d', p.1 = tI l ∧ p.2 = [d'] ∧ CtxP count width l ∧ Pot (B + 60) d') (m [d, .int count, .int width])
theorem context_s {Γ : List Callee} {c : Nat} {m : Mng} (hg : Γ[c]? = some ⟨[0], m⟩) (hm : TakeS m) : ContextS ((F_law_context c).mng Γ) := by
  intro B d count width hp hB c1 c2 w1 w2
  refine (mng_T (P := fun x o => ∃ l d', x = tI l ∧ o = [d'] ∧ CtxP count width l ∧ Pot (B + 60) d') rfl).mpr ?_
  unfold F_law_context
  walk_at "hx"
  refine call_take hg hm hp (by omega) (by omega) (by omega) rfl rfl fun r d' r0 r1 hp' => ?_
  walk_at "hx"
  rw [rng_i (by omega) (by omega)]
  refine ⟨_, rfl, ?_⟩
  refine loop_T (I := fun i ρ => ∃ pd l o4 o5, ρ = [some pd, some (.int count), some (.int width), some (.list (l.map .int)), o4, o5] ∧ Pot (B + 1 + i) pd ∧ l.length ≤ i ∧ (0 < i → l ≠ []) ∧ (∀ q ∈ l, 0 ≤ q ∧ q < count) ∧ l.Nodup) ?_ ?_ ?_
  · exact ⟨d', [], none, none, rfl, hp', Nat.zero_le _, fun h => absurd h (by omega), fun s hs => (by cases hs), List.nodup_nil⟩
  · rintro i x ρ hx ⟨pd, l, o4, o5, rfl, q1, q2, q3, q4, q5⟩
    obtain ⟨hi, rfl⟩ := rng_get hx
    refine ⟨_, rfl, ?_⟩
    walk_at "hx"
    refine call_take hg hm q1 (by omega) (by omega) (by omega) rfl rfl fun r2 d2 r20 r21 hp2 => ?_
    walk_at "hx"
    rw [cm_notin_l]
    walk_at "hx"
    refine ⟨fun hc => ?_, fun hc => ?_⟩
    · refine ⟨d2, l, _, _, rfl, hp2, by omega, fun _ z => ?_, q4, q5⟩
      rw [z] at hc
      cases hc
    · refine ⟨by rw [List.length_map]; unfold lim; omega, d2, l ++ [r2], _, _, by rw [List.map_append]; rfl, hp2, by rw [List.length_append, List.length_singleton]; omega, fun _ => by simp, fun q hq => ?_, ?_⟩
      · rcases List.mem_append.mp hq with h | h
        · exact q4 q h
        · rw [List.mem_singleton.mp h]; exact ⟨r20, r21⟩
      · refine List.nodup_append.mpr ⟨q5, by simp, fun a ha b hb z => ?_⟩
        rw [List.mem_singleton.mp hb] at z
        rw [z] at ha
        have : l.contains r2 = true := by simpa using ha
        rw [hc] at this
        cases this
  · rintro ρ ⟨pd, l, o4, o5, rfl, q1, q2, q3, q4, q5⟩
    rw [List.length_map, List.length_range] at q1 q2 q3
    walk_at "hx"
    rw [bi_sorted_ints (by unfold lim; omega)]
    obtain ⟨ms, e, pm⟩ := sort_ints l
    have ha := sort_asc (ord_ints l) (nodup_map (fun a b h => by injection h) q5)
    rw [e] at ha
    rw [e]
    walk_at "hx"
    refine ⟨?_, ms, rfl, pd, rfl, ⟨fun z => ?_, ?_, fun q hq => q4 q (pm.mem_iff.mp hq), ha⟩, q1.mono (by omega)⟩
    · obtain ⟨a, b, c, rfl, _⟩ := q1.ex
      rfl
    · rw [z] at pm
      exact q3 (by omega) pm.symm.eq_nil
    · have := pm.length_eq
      omega
/-! ### rows -/
def sizeAt (sizes : List Int) (q : Int) : Nat := (sizes[q.toNat]?.getD 0).toNat
def longer (sizes : List Int) (rows : List (List Int)) (q : Int) : List (List Int) := rows.flatMap fun r => (List.range (sizeAt sizes q)).map fun a : Nat => r ++ [(a : Int)]
def rowsL (sizes : List Int) (asked : List Int) : List (List Int) := asked.foldl (longer sizes) [[]]
theorem rowsL_snoc {sizes asked : List Int} {q : Int} : rowsL sizes (asked ++ [q]) = longer sizes (rowsL sizes asked) q := by
  unfold rowsL
  rw [List.foldl_append]
  rfl
theorem longer_len {sizes : List Int} {rows : List (List Int)} {q : Int} : (longer sizes rows q).length = rows.length * sizeAt sizes q := by
  unfold longer
  induction rows with
  | nil => simp
  | cons r rows ih =>
    rw [List.flatMap_cons, List.length_append, ih, List.length_map, List.length_range, List.length_cons, Nat.add_mul]
    omega
/-- sizes, and questions of them -/
structure Asked (sizes asked : List Int) : Prop where
  sz : ∀ s ∈ sizes, 1 ≤ s ∧ s ≤ 4
  bet : ∀ q ∈ asked, 0 ≤ q ∧ q < sizes.length
  len : asked.length ≤ 9
theorem Asked.at {sizes asked : List Int} (h : Asked sizes asked) {q : Int} (hq : q ∈ asked) : L2.atI (sizes.map PyData.int) q = some (.int (sizeAt sizes q)) ∧ 1 ≤ sizeAt sizes q ∧ sizeAt sizes q ≤ 4 := by
  have hb := h.bet q hq
  have hl : q.toNat < sizes.length := by omega
  have e : q = (q.toNat : Int) := by omega
  have hs := h.sz _ (List.getElem_mem hl)
  have e2 : sizeAt sizes q = sizes[q.toNat].toNat := by
    unfold sizeAt
    rw [List.getElem?_eq_getElem hl]
    rfl
  refine ⟨?_, by omega, by omega⟩
  rw [e, at_nat, List.getElem?_map, List.getElem?_eq_getElem hl, ← e, e2]
  show some (PyData.int _) = some (PyData.int _)
  congr 2
  omega
theorem rowsL_len {sizes : List Int} : ∀ {asked : List Int}, Asked sizes asked → (rowsL sizes asked).length ≤ 4 ^ asked.length ∧ 1 ≤ (rowsL sizes asked).length := by
  have go : ∀ (l rest : List Int), (∀ q ∈ rest, sizeAt sizes q ≤ 4 ∧ 1 ≤ sizeAt sizes q) → ∀ rows : List (List Int), rows.length ≤ 4 ^ l.length → 1 ≤ rows.length → (rest.foldl (longer sizes) rows).length ≤ 4 ^ (l.length + rest.length) ∧ 1 ≤ (rest.foldl (longer sizes) rows).length := by
    intro l rest
    induction rest generalizing l with
    | nil => intro _ rows h h1; exact ⟨h, h1⟩
    | cons q rest ih =>
      intro hs rows h h1
      have hq := hs q List.mem_cons_self
      have e : (longer sizes rows q).length ≤ 4 ^ (l.length + 1) := by
        rw [longer_len, Nat.pow_succ]
        exact Nat.mul_le_mul h hq.1
      have e1 : 1 ≤ (longer sizes rows q).length := by
        rw [longer_len]
        exact Nat.mul_pos h1 hq.2
      have := ih (q :: l) (fun z hz => hs z (List.mem_cons_of_mem _ hz)) (longer sizes rows q) (by rw [List.length_cons]; exact e) e1
      refine ⟨?_, this.2⟩
      have e3 : l.length + (q :: rest).length = (q :: l).length + rest.length := by simp only [List.length_cons]; omega
      rw [e3]
      exact this.1
  intro asked h
  have := go [] asked (fun q hq => ⟨(h.at hq).2.2, (h.at hq).2.1⟩) [[]] (by simp) (by simp)
  rw [List.length_nil, Nat.zero_add] at this
  exact this
theorem rowsL_each {sizes : List Int} : ∀ {asked : List Int}, ∀ r ∈ rowsL sizes asked, r.length = asked.length := by
  have go : ∀ (rest : List Int) (k : Nat) (rows : List (List Int)), (∀ r ∈ rows, r.length = k) → ∀ r ∈ rest.foldl (longer sizes) rows, r.length = k + rest.length := by
    intro rest
    induction rest with
    | nil => intro k rows h r hr; exact h r hr
    | cons q rest ih =>
      intro k rows h r hr
      have := ih (k + 1) (longer sizes rows q) (fun z hz => by
        obtain ⟨y, hy, hz⟩ := List.mem_flatMap.mp hz
        obtain ⟨a, _, rfl⟩ := List.mem_map.mp hz
        rw [List.length_append, h y hy]
        rfl) r hr
      rw [this, List.length_cons]
      omega
  intro asked r hr
  have := go asked 0 [[]] (fun r hr => by rw [List.mem_singleton.mp hr]; rfl) r hr
  omega
def RowsS (m : Mng) : Prop := ∀ sizes asked, Asked sizes asked → T (fun p => p.1 = .list ((rowsL sizes asked).map tI)) (m [tI sizes, tI asked])
theorem Asked.pre {sizes asked : List Int} (h : Asked sizes asked) (i : Nat) : Asked sizes (asked.take i) := ⟨h.sz, fun q hq => h.bet q (List.mem_of_mem_take hq), by rw [List.length_take]; have := h.len; omega⟩
theorem rowsL_lim {sizes asked : List Int} (h : Asked sizes asked) : (rowsL sizes asked).length ≤ 262144 := by
  have h1 := (rowsL_len h).1
  have h2 : 4 ^ asked.length ≤ 4 ^ 9 := Nat.pow_le_pow_right (by decide) h.len
  have h3 : 4 ^ 9 = 262144 := by decide
  omega
theorem rows_s {Γ : List Callee} : RowsS (F_law_rows.mng Γ) := by
  intro sizes asked h
  refine (mng_T (P := fun x o => x = .list ((rowsL sizes asked).map tI)) rfl).mpr ?_
  unfold F_law_rows tI
  walk_at "hx"
  refine loop_T (I := fun i ρ => ∃ o3 o4 o5 o6, ρ = [some (.tuple (sizes.map .int)), some (.tuple (asked.map .int)), some (.list ((rowsL sizes (asked.take i)).map tI)), o3, o4, o5, o6]) ?_ ?_ ?_
  · exact ⟨none, none, none, none, rfl⟩
  · rintro i x ρ hx ⟨o3, o4, o5, o6, rfl⟩
    rw [List.getElem?_map] at hx
    obtain ⟨q, hq, rfl⟩ := Option.map_eq_some_iff.mp hx
    obtain ⟨ea, s1, s4⟩ := h.at (List.mem_of_getElem? hq)
    have tk : asked.take (i + 1) = asked.take i ++ [q] := by
      rw [List.take_succ, hq]
      rfl
    refine ⟨_, rfl, ?_⟩
    walk_at "hx"
    have hlen := rowsL_lim (h.pre (i + 1))
    rw [tk, rowsL_snoc] at hlen
    generalize hrows : rowsL sizes (asked.take i) = rows at hlen
    refine loop_T (I := fun j ρ => ∃ o5 o6, ρ = [some (.tuple (sizes.map .int)), some (.tuple (asked.map .int)), some (.list (rows.map tI)), some (.int q), some (.list ((longer sizes (rows.take j) q).map tI)), o5, o6]) ⟨_, _, rfl⟩ ?_ ?_
    · rintro j y ρ hy ⟨o5, o6, rfl⟩
      rw [List.getElem?_map] at hy
      obtain ⟨r, hr, rfl⟩ := Option.map_eq_some_iff.mp hy
      refine ⟨_, rfl, ?_⟩
      walk_at "hx"
      rw [ea]
      refine ⟨_, rfl, ?_⟩
      rw [rng_i (by omega) (by omega), Int.toNat_natCast]
      refine ⟨_, rfl, ?_⟩
      have tkr : rows.take (j + 1) = rows.take j ++ [r] := by
        rw [List.take_succ, hr]
        rfl
      have e2 : longer sizes (rows.take (j + 1)) q = longer sizes (rows.take j) q ++ (List.range (sizeAt sizes q)).map fun a : Nat => r ++ [(a : Int)] := by
        rw [tkr]
        unfold longer
        rw [List.flatMap_append, List.flatMap_singleton]
      have l2 : (longer sizes (rows.take (j + 1)) q).length ≤ 262144 := by
        rw [longer_len] at hlen ⊢
        refine Nat.le_trans (Nat.mul_le_mul_right _ ?_) hlen
        rw [List.length_take]
        omega
      refine comp_M (fun x => tI (r ++ [intV x])) (fun x hx => ⟨_, rfl, ?_⟩) (by rw [List.length_map, List.length_range]; unfold lim; omega) ?_
      · obtain ⟨a, ha, rfl⟩ := List.mem_map.mp hx
        unfold tI
        walk_at "hx"
        have hr' := rowsL_each r (by rw [hrows]; exact List.mem_of_getElem? hr)
        have h9 := (h.pre i).len
        refine ⟨by rw [List.length_map]; unfold lim; omega, ?_⟩
        rw [List.map_append]
        rfl
      · walk_at "hx"
        have e3 : (longer sizes (rows.take (j + 1)) q).map tI = (longer sizes (rows.take j) q).map tI ++ ((List.range (sizeAt sizes q)).map fun i : Nat => PyData.int (i : Int)).map fun x => tI (r ++ [intV x]) := by
          rw [e2, List.map_append, List.map_map, List.map_map]
          rfl
        rw [e3]
        refine ⟨?_, _, _, rfl⟩
        have := congrArg List.length e3
        rw [List.length_append, List.length_map] at this
        rw [← this]
        unfold lim
        omega
    · rintro ρ ⟨o5, o6, rfl⟩
      rw [List.length_map, List.take_length]
      walk_at "hx"
      rw [tk, rowsL_snoc, hrows]
      exact ⟨_, _, _, _, rfl⟩
  · rintro ρ ⟨o3, o4, o5, o6, rfl⟩
    rw [List.length_map, List.take_length]
    walk_at "hx"
    exact ⟨rfl, rfl⟩
end Hx

set_option Elab.async false
set_option linter.all false
set_option maxRecDepth 100000
set_option maxHeartbeats 4000000
/-! P10: drawn cycles. -/
namespace Hx
open PySem
local macro_rules | `(tactic| walk_at "hx") => `(tactic| simp only [E_v, E_lit, E_con, E_edct, E_tup, E_lst, E_neg, E_bin, E_cmp, E_chain, E_isN, E_not, E_and, E_or, EAnd_nil, EAnd_cons, EOr_nil, EOr_cons, E_ite, E_call, E_callk, E_bi, E_mkt, E_mkl, E_isa, E_idx, E_sl, E_rev, E_ixof, E_dzip, E_dget, E_comp, E_comp2, E_dcomp2, E_pop, Es_nil, Es_cons, Et_val, Et_not, Et_and, Et_or, ECs_nil, ECs_cons, EDs_nil, EDs_cons, EO_non, EO_som, EI_seq, EI_rng, EI_zip, EI_enm,
  St_asg, St_unp, St_setix, St_aug, St_ex, St_app, St_ext, St_ret, St_if, St_for, St_pas, Ss_nil, Ss_cons, Lit.d, List.getElem?_cons_zero, List.getElem?_cons_succ, List.set_cons_zero, List.set_cons_succ, List.length_cons, List.length_nil, List.map_cons, List.map_nil, List.replicate_succ, List.replicate_zero, List.cons_append, List.nil_append, Option.some.injEq, exists_eq_left', exists_eq_left, PyData.int.injEq, PyData.list.injEq, PyData.tuple.injEq, PyData.bool.injEq, PyData.str.injEq,
  ifB_tt, ifB_ff, ifB_dec, ifB_not, op_add, op_sub, op_mul, op_mod, op_fdiv, op_pow, op_addt, op_addl, cm_lt, cm_le, cm_gt, cm_ge, cm_eq, cm_ne, b_bool, t_bool, bi_len_l, bi_len_t, bi_tuple_l, bi_tuple_t, bi_list_l, bi_list_t, bi_int_i, bi_int_b, bi_absI, ix_list, ix_tuple, at_0, at_1, at_2, at_3, Bool.not_true, Bool.not_false, Nat.reduceSub, Nat.reduceAdd, neg_i, int_i, items_l, items_t, items_ll, exists_const, exists_and_left, ix30, ix31, ix32, own_v, own_tup, wipe_nil, wipe_cons, bindT_v, bindT_tup, setAll_nil, setAll_cons, true_and, and_true])
theorem asc_pw : ∀ {c : List Int}, c.Pairwise (· < ·) → asc (c.map .int) = true
  | [], _ => rfl
  | [x], _ => rfl
  | x :: y :: r, h => by
    show (ltV (.int x) (.int y) && asc ((y :: r).map .int)) = true
    rw [ltV_int, asc_pw (c := y :: r) (List.pairwise_cons.mp h).2, decide_eq_true ((List.pairwise_cons.mp h).1 y (by simp))]
    rfl
/-- a shape over k places -/
structure Shape (k : Nat) (sh : List (List Int)) : Prop where
  nd : sh.Nodup
  len : sh.length ≤ 6
  each : ∀ p ∈ sh, p ≠ [] ∧ p.length ≤ 3 ∧ p.Pairwise (· < ·) ∧ ∀ i ∈ p, 0 ≤ i ∧ i < k
def shThree : List (List Int) := [[0, 1], [0, 2], [1, 2]]
def shTriples : List (List Int) := [[0, 1, 2], [0, 1, 3], [0, 2, 3], [1, 2, 3]]
def shPairs : List (List Int) := [[0, 1], [0, 2], [1, 2], [0, 3], [1, 3], [2, 3]]
def shRing : List (List Int) := [[0, 1], [0, 3], [1, 2], [2, 3]]
theorem sh_nil {k : Nat} : Shape k [] := ⟨List.nodup_nil, by decide, fun p h => by cases h⟩
theorem sh_three {k : Nat} (h : 3 ≤ k) : Shape k shThree := ⟨by decide, by decide, fun p hp => by
  have hp' : p ∈ [[0, 1], [0, 2], [1, 2]] := hp
  simp only [List.mem_cons, List.not_mem_nil, or_false] at hp'
  rcases hp' with rfl | rfl | rfl <;> refine ⟨by simp, by simp, by decide, fun i hi => ?_⟩ <;> simp only [List.mem_cons, List.not_mem_nil, or_false] at hi <;> omega⟩
theorem sh_triples {k : Nat} (h : 4 ≤ k) : Shape k shTriples := ⟨by decide, by decide, fun p hp => by
  have hp' : p ∈ [[0, 1, 2], [0, 1, 3], [0, 2, 3], [1, 2, 3]] := hp
  simp only [List.mem_cons, List.not_mem_nil, or_false] at hp'
  rcases hp' with rfl | rfl | rfl | rfl <;> refine ⟨by simp, by simp, by decide, fun i hi => ?_⟩ <;> simp only [List.mem_cons, List.not_mem_nil, or_false] at hi <;> omega⟩
theorem sh_pairs {k : Nat} (h : 4 ≤ k) : Shape k shPairs := ⟨by decide, by decide, fun p hp => by
  have hp' : p ∈ [[0, 1], [0, 2], [1, 2], [0, 3], [1, 3], [2, 3]] := hp
  simp only [List.mem_cons, List.not_mem_nil, or_false] at hp'
  rcases hp' with rfl | rfl | rfl | rfl | rfl | rfl <;> refine ⟨by simp, by simp, by decide, fun i hi => ?_⟩ <;> simp only [List.mem_cons, List.not_mem_nil, or_false] at hi <;> omega⟩
theorem sh_ring {k : Nat} (h : 4 ≤ k) : Shape k shRing := ⟨by decide, by decide, fun p hp => by
  have hp' : p ∈ [[0, 1], [0, 3], [1, 2], [2, 3]] := hp
  simp only [List.mem_cons, List.not_mem_nil, or_false] at hp'
  rcases hp' with rfl | rfl | rfl | rfl <;> refine ⟨by simp, by simp, by decide, fun i hi => ?_⟩ <;> simp only [List.mem_cons, List.not_mem_nil, or_false] at hi <;> omega⟩
/-- places that stay -/
structure Some_ (n : Nat) (xs : List Int) : Prop where
  pw : xs.Pairwise (· < ·)
  bet : ∀ q ∈ xs, 0 ≤ q ∧ q < n
def pick (xs : List Int) (p : List Int) : List Int := p.map fun i => xs[i.toNat]?.getD 0
theorem pick_ok {n : Nat} {xs p : List Int} (h : Some_ n xs) (hn : p ≠ []) (hl : p.length ≤ 3) (hp : p.Pairwise (· < ·)) (hb : ∀ i ∈ p, 0 ≤ i ∧ i < xs.length) : CtxP n 3 (pick xs p) := by
  have get : ∀ i ∈ p, ∃ hi : i.toNat < xs.length, (xs[i.toNat]?.getD 0) = xs[i.toNat] := fun i hi => by
    have := hb i hi
    have hlt : i.toNat < xs.length := by omega
    exact ⟨hlt, by rw [List.getElem?_eq_getElem hlt]; rfl⟩
  refine ⟨fun z => hn (List.map_eq_nil_iff.mp z), by unfold pick; rw [List.length_map]; omega, fun q hq => ?_, asc_pw ?_⟩
  · obtain ⟨i, hi, rfl⟩ := List.mem_map.mp hq
    obtain ⟨hlt, e⟩ := get i hi
    rw [e]
    exact h.bet _ (List.getElem_mem hlt)
  · unfold pick
    rw [List.pairwise_map]
    refine hp.imp_of_mem fun {a b} ha hb' hab => ?_
    obtain ⟨h1, e1⟩ := get a ha
    obtain ⟨h2, e2⟩ := get b hb'
    rw [e1, e2]
    exact List.pairwise_iff_getElem.mp h.pw _ _ h1 h2 (by have := hb a ha; omega)
theorem pick_inj {n : Nat} {xs p q : List Int} (h : Some_ n xs) (hp : ∀ i ∈ p, 0 ≤ i ∧ i < xs.length) (hq : ∀ i ∈ q, 0 ≤ i ∧ i < xs.length) (e : pick xs p = pick xs q) : p = q := by
  induction p generalizing q with
  | nil => cases q with
    | nil => rfl
    | cons b q => cases e
  | cons a p ih => cases q with
    | nil => cases e
    | cons b q =>
      have e' : (xs[a.toNat]?.getD 0) :: pick xs p = (xs[b.toNat]?.getD 0) :: pick xs q := e
      injection e' with e1 e2
      have ha := hp a List.mem_cons_self
      have hb := hq b List.mem_cons_self
      have h1 : a.toNat < xs.length := by omega
      have h2 : b.toNat < xs.length := by omega
      rw [List.getElem?_eq_getElem h1, List.getElem?_eq_getElem h2] at e1
      have e1' : xs[a.toNat] = xs[b.toNat] := e1
      have : a.toNat = b.toNat := by
        rcases Nat.lt_trichotomy a.toNat b.toNat with z | z | z
        · have := List.pairwise_iff_getElem.mp h.pw _ _ h1 h2 z
          omega
        · exact z
        · have := List.pairwise_iff_getElem.mp h.pw _ _ h2 h1 z
          omega
      rw [show a = b by omega, ih (fun i hi => hp i (List.mem_cons_of_mem _ hi)) (fun i hi => hq i (List.mem_cons_of_mem _ hi)) e2]
/-- contexts of n questions, drawn -/
structure Ctxs (n width : Int) (cs : List (List Int)) : Prop where
  nd : cs.Nodup
  each : ∀ c ∈ cs, CtxP n width c
theorem shape_ctxs {n : Nat} {xs : List Int} {sh : List (List Int)} (h : Some_ n xs) (s : Shape xs.length sh) : Ctxs n 3 (sh.map (pick xs)) ∧ (sh.map (pick xs)).length ≤ 6 := by
  refine ⟨⟨?_, fun c hc => ?_⟩, by rw [List.length_map]; exact s.len⟩
  · rw [List.nodup_iff_pairwise_ne, List.pairwise_map]
    refine (List.nodup_iff_pairwise_ne.mp s.nd).imp_of_mem fun {a b} ha hb hab z => hab ?_
    exact pick_inj h (s.each a ha).2.2.2 (s.each b hb).2.2.2 z
  · obtain ⟨p, hp, rfl⟩ := List.mem_map.mp hc
    obtain ⟨h1, h2, h3, h4⟩ := s.each p hp
    exact pick_ok h h1 h2 h3 h4
theorem at_pick {xs : List Int} {i : Int} (h : 0 ≤ i ∧ i < xs.length) : L2.atI (xs.map PyData.int) i = some (.int (xs[i.toNat]?.getD 0)) := by
  have hl : i.toNat < xs.length := by omega
  have e : i = (i.toNat : Int) := by omega
  rw [e, at_nat, List.getElem?_map, List.getElem?_eq_getElem hl]
  rw [Int.toNat_natCast, List.getElem?_eq_getElem hl]
  rfl
def CycleS (m : Mng) : Prop := ∀ (B : Nat) (d : PyData) (l : List Int) (lines : Int), Pot B d → B + 100 ≤ potLim → 1 ≤ l.length → l.length ≤ 8 → (∀ s ∈ l, 2 ≤ s ∧ s ≤ 4) → T (fun p => ∃ cs d', p.1 = .list (cs.map tI) ∧ p.2 = [d'] ∧ Ctxs l.length 3 cs ∧ cs.length ≤ 6 ∧ Pot (B + 10) d') (m [d, tI l, .int lines])
theorem Some_.erase {n : Nat} {xs : List Int} (h : Some_ n xs) (j : Nat) : Some_ n (xs.eraseIdx j) := ⟨h.pw.sublist (List.eraseIdx_sublist _ _), fun q hq => h.bet q ((List.eraseIdx_sublist _ _).subset hq)⟩
theorem erase_map {α β : Type} {f : α → β} : ∀ (xs : List α) (j : Nat), (xs.map f).eraseIdx j = (xs.eraseIdx j).map f
  | [], _ => rfl
  | x :: xs, 0 => rfl
  | x :: xs, j + 1 => by
    show f x :: (xs.map f).eraseIdx j = f x :: (xs.eraseIdx j).map f
    rw [erase_map xs j]
theorem pop_at {xs : List Int} {i : Int} (h : 0 ≤ i ∧ i < xs.length) (hl : xs.length ≤ lim) : popD (some (.list (xs.map PyData.int))) [.int i] = some (.int (xs[i.toNat]?.getD 0), (xs.eraseIdx i.toNat).map .int) := by
  have hlt : i.toNat < xs.length := by omega
  have e1 : L2.ixN (xs.map PyData.int).length i = some i.toNat := by
    rw [List.length_map]
    have e := ixn_nat hlt
    rw [show (i.toNat : Int) = i by omega] at e
    exact e
  show (if (xs.map PyData.int).length ≤ lim then (L2.ixN (xs.map PyData.int).length i).bind fun j => (xs.map PyData.int)[j]?.map fun d => (d, (xs.map PyData.int).eraseIdx j) else none) = _
  rw [if_pos (by rw [List.length_map]; exact hl), e1]
  show (xs.map PyData.int)[i.toNat]?.map _ = _
  rw [List.getElem?_map, List.getElem?_eq_getElem hlt]
  show some (PyData.int xs[i.toNat], (xs.map PyData.int).eraseIdx i.toNat) = some (PyData.int xs[i.toNat], _)
  rw [erase_map]
/-- rows of contexts, in all -/
def rowsSum (sizes : List Int) (cs : List (List Int)) : Int := (cs.map fun c => ((rowsL sizes c).length : Int)).sum
theorem askedOf {l c : List Int} {w : Int} (hl : ∀ s ∈ l, 2 ≤ s ∧ s ≤ 4) (hc : CtxP l.length w c) (hw : w ≤ 9) : Asked l c := ⟨fun s hs => by have := hl s hs; omega, hc.bet, by have := hc.len; omega⟩
def shD (sh : List (List Int)) : PyData := .list (sh.map tI)
def cycBody (c_law_rows : Nat) : ISs := (.cons (.asg 11 (.comp (.v 12) (.seq (.v 10)) .nil (.bi .tuple (.cons (.comp (.v 13) (.seq (.v 12)) .nil (.idx (.v 3) (.v 13))) .nil))))
  (.cons (.ite (.val (.cmp .le (.bin .add (.bi .sum (.cons (.comp (.v 14) (.seq (.v 11)) .nil (.bi .len (.cons (.call c_law_rows (.cons (.v 1) (.cons (.v 14) .nil))) .nil))) .nil)) (.bi .sum (.cons (.v 1) .nil))) (.v 2)))
   (.cons (.ret (.v 11))
   .nil)
   .nil)
  .nil))
theorem cyc_loop {Γ : List Callee} {c2 : Nat} {m2 : Mng} (g2 : Γ[c2]? = some ⟨[], m2⟩) (h2 : RowsS m2) {pd : PyData} {l xs : List Int} {lines : Int} {a4 a5 a6 a7 a8 a9 : Option PyData} {shs : List (List (List Int))} {N : Env → Prop} {R : PyData → Env → Prop}
    (l8 : l.length ≤ 8) (hl : ∀ s ∈ l, 2 ≤ s ∧ s ≤ 4) (hx : Some_ l.length xs) (hs : ∀ sh ∈ shs, Shape xs.length sh)
    (hN : ∀ o10 o11 o12 o13 o14, N [some pd, some (.tuple (l.map .int)), some (.int lines), some (.list (xs.map .int)), a4, a5, a6, a7, a8, a9, o10, o11, o12, o13, o14])
    (hR : ∀ cs o10 o11 o12 o13 o14, Ctxs l.length 3 cs → cs.length ≤ 6 → rowsSum l cs + l.sum ≤ lines → R (.list (cs.map tI)) [some pd, some (.tuple (l.map .int)), some (.int lines), some (.list (xs.map .int)), a4, a5, a6, a7, a8, a9, o10, o11, o12, o13, o14]) :
    loopX Γ (.v 10) (cycBody c2) (shs.map shD) [some pd, some (.tuple (l.map .int)), some (.int lines), some (.list (xs.map .int)), a4, a5, a6, a7, a8, a9, none, none, none, none, none] N R := by
  refine loop_T (I := fun _ ρ => ∃ o10 o11 o12 o13 o14, ρ = [some pd, some (.tuple (l.map .int)), some (.int lines), some (.list (xs.map .int)), a4, a5, a6, a7, a8, a9, o10, o11, o12, o13, o14]) ⟨_, _, _, _, _, rfl⟩ ?_ ?_
  · rintro i x ρ hxi ⟨o10, o11, o12, o13, o14, rfl⟩
    rw [List.getElem?_map] at hxi
    obtain ⟨sh, hsh, rfl⟩ := Option.map_eq_some_iff.mp hxi
    have s := hs sh (List.mem_of_getElem? hsh)
    obtain ⟨hc, hc6⟩ := shape_ctxs hx s
    refine ⟨_, rfl, ?_⟩
    unfold cycBody shD
    walk_at "hx"
    refine comp_M (fun p => tI (pick xs ((itemsV p).map intV))) (fun p hp => ⟨_, rfl, ?_⟩) (by rw [List.length_map]; have := s.len; unfold lim; omega) ?_
    · obtain ⟨q, hq, rfl⟩ := List.mem_map.mp hp
      obtain ⟨_, q3, _, qb⟩ := s.each q hq
      unfold tI
      walk_at "hx"
      refine comp_M (fun i => .int (xs[(intV i).toNat]?.getD 0)) (fun i hi => ⟨_, rfl, ?_⟩) (by rw [List.length_map]; unfold lim; omega) ?_
      · obtain ⟨k, hk, rfl⟩ := List.mem_map.mp hi
        walk_at "hx"
        exact ⟨_, at_pick (qb k hk), rfl⟩
      · walk_at "hx"
        show _ = ((((q.map PyData.int).map intV).map fun i => xs[i.toNat]?.getD 0).map PyData.int)
        simp only [List.map_map]
        rfl
    · have e0 : (sh.map tI).map (fun p => tI (pick xs ((itemsV p).map intV))) = (sh.map (pick xs)).map tI := by
        rw [List.map_map, List.map_map]
        refine List.map_congr_left fun p _ => ?_
        show tI (pick xs (((p.map PyData.int)).map intV)) = tI (pick xs p)
        rw [List.map_map]
        have e : (intV ∘ PyData.int) = id := funext fun _ => rfl
        rw [e, List.map_id]
      rw [e0]
      generalize hcs : sh.map (pick xs) = cs at hc hc6
      walk_at "hx"
      refine comp_M (fun c => .int ((rowsL l ((itemsV c).map intV)).length : Nat)) (fun c hcm => ⟨_, rfl, ?_⟩) (by rw [List.length_map]; unfold lim; omega) ?_
      · obtain ⟨q, hq, rfl⟩ := List.mem_map.mp hcm
        walk_at "hx"
        refine call_0 g2 ((h2 l q (askedOf hl (hc.each q hq) (by decide))).mono fun r hr => ?_)
        rw [hr]
        walk_at "hx"
        rw [List.length_map]
        have e : ((itemsV (tI q)).map intV) = q := by
          show ((q.map PyData.int).map intV) = q
          rw [List.map_map]
          have e : (intV ∘ PyData.int) = id := funext fun _ => rfl
          rw [e, List.map_id]
        rw [e]
      · rw [k_sum_l (f := fun c => ((rowsL l ((itemsV c).map intV)).length : Int)) fun _ _ => rfl]
        walk_at "hx"
        rw [k_sum_t (f := fun s : Int => s) fun _ _ => rfl]
        walk_at "hx"
        have es : ((cs.map tI).map fun c => ((rowsL l ((itemsV c).map intV)).length : Int)).sum = rowsSum l cs := by
          unfold rowsSum
          rw [List.map_map]
          congr 1
          refine List.map_congr_left fun q _ => ?_
          show ((rowsL l ((q.map PyData.int).map intV)).length : Int) = _
          rw [List.map_map]
          have e : (intV ∘ PyData.int) = id := funext fun _ => rfl
          rw [e, List.map_id]
        rw [es]
        have el : (l.map fun s : Int => s) = l := List.map_id' l
        rw [el]
        refine ⟨fun h => hR _ _ _ _ _ _ hc hc6 h, fun h => ⟨_, _, _, _, _, rfl⟩⟩
  · rintro ρ ⟨o10, o11, o12, o13, o14, rfl⟩
    exact hN _ _ _ _ _
theorem cycle_s {Γ : List Callee} {c1 c2 : Nat} {m1 m2 : Mng} (g1 : Γ[c1]? = some ⟨[0], m1⟩) (h1 : TakeS m1) (g2 : Γ[c2]? = some ⟨[], m2⟩) (h2 : RowsS m2) : CycleS ((F_law_cycle c1 c2).mng Γ) := by
  intro B d l lines hp hB l1 l8 hl
  refine (mng_T (P := fun x o => ∃ cs d', x = .list (cs.map tI) ∧ o = [d'] ∧ Ctxs l.length 3 cs ∧ cs.length ≤ 6 ∧ Pot (B + 10) d') rfl).mpr ?_
  unfold F_law_cycle
  rw [show tI l = .tuple (l.map .int) from rfl]
  walk_at "hx"
  rw [List.length_map, rng_i (by omega) (by omega)]
  refine ⟨_, rfl, ?_⟩
  rw [rng_i (by omega) (by omega)]
  refine ⟨_, rfl, ?_⟩
  refine loop_T (I := fun i ρ => ∃ pd xs o4, ρ = [some pd, some (.tuple (l.map .int)), some (.int lines), some (.list (xs.map .int)), o4, none, none, none, none, none, none, none, none, none, none] ∧ Pot (B + i) pd ∧ Some_ l.length xs ∧ xs.length + i = l.length) ?_ ?_ ?_
  · refine ⟨d, (List.range l.length).map fun i : Nat => (i : Int), none, ?_, hp, ⟨?_, fun q hq => ?_⟩, by simp⟩
    · rw [List.map_map, Int.toNat_natCast]
      rfl
    · rw [List.pairwise_map]
      exact List.pairwise_lt_range.imp fun h => by omega
    · obtain ⟨i, hi, rfl⟩ := List.mem_map.mp hq
      have := List.mem_range.mp hi
      omega
  · rintro i x ρ hx ⟨pd, xs, o4, rfl, q1, q2, q3⟩
    obtain ⟨hi, rfl⟩ := rng_get hx
    refine ⟨_, rfl, ?_⟩
    walk_at "hx"
    rw [List.length_map]
    refine call_take g1 h1 q1 (by omega) (by omega) (by omega) rfl rfl fun r d' r0 r1 hp' => ?_
    walk_at "hx"
    refine ⟨_, pop_at ⟨r0, r1⟩ (by unfold lim; omega), ?_⟩
    walk_at "hx"
    refine ⟨d', xs.eraseIdx r.toNat, _, rfl, hp', q2.erase _, ?_⟩
    rw [List.length_eraseIdx_of_lt (by omega)]
    omega
  · rintro ρ ⟨pd, xs, o4, rfl, q1, q2, q3⟩
    rw [List.length_map, List.length_range] at q1 q3
    walk_at "hx"
    refine ⟨by unfold lim; decide, ?_⟩
    refine call_take g1 h1 q1 (by omega) (by omega) (by omega) rfl rfl fun r d' r0 r1 hp' => ?_
    walk_at "hx"
    have pot0 : ∀ {x : PyData}, Pot (B + (↑l.length - 4 : Int).toNat + 1) x → ∀ rest, (outs [0] (some x :: rest)).all intList = true := fun h rest => by
      obtain ⟨a, b, c, rfl, _⟩ := h.ex
      rfl
    have fin : ∀ shs : List (List (List Int)), (∀ sh ∈ shs, Shape xs.length sh) → ∀ a5 a6 a7 a8 a9, loopX Γ (.v 10) (cycBody c2) (shs.map shD) [some d', some (.tuple (l.map .int)), some (.int lines), some (.list (xs.map .int)), o4, a5, a6, a7, a8, a9, none, none, none, none, none]
        (fun ρ1 => endP [0] (fun x o => ∃ cs, x = PyData.list (cs.map tI) ∧ ∃ x, o = [x] ∧ Ctxs l.length 3 cs ∧ cs.length ≤ 6 ∧ Pot (B + 10) x) (PyData.list []) ρ1)
        (fun d ρ => endP [0] (fun x o => ∃ cs, x = PyData.list (cs.map tI) ∧ ∃ x, o = [x] ∧ Ctxs l.length 3 cs ∧ cs.length ≤ 6 ∧ Pot (B + 10) x) d ρ) := fun shs hsh a5 a6 a7 a8 a9 =>
      cyc_loop g2 h2 l8 hl q2 hsh (fun _ _ _ _ _ => ⟨pot0 hp' _, [], rfl, d', rfl, ⟨List.nodup_nil, fun c hc => by cases hc⟩, by decide, hp'.mono (by omega)⟩)
        fun cs _ _ _ _ _ hc h6 _ => ⟨pot0 hp' _, cs, rfl, d', rfl, hc, h6, hp'.mono (by omega)⟩
    have six : ∃ sh : List (List Int), L2.atI [shD shThree, shD shThree, shD shRing, shD shTriples, shD shPairs, shD []] r = some (shD sh) ∧ (4 ≤ xs.length → Shape xs.length sh) := by
      have : r = 0 ∨ r = 1 ∨ r = 2 ∨ r = 3 ∨ r = 4 ∨ r = 5 := by omega
      rcases this with rfl | rfl | rfl | rfl | rfl | rfl
      · exact ⟨shThree, rfl, fun h => sh_three (by omega)⟩
      · exact ⟨shThree, rfl, fun h => sh_three (by omega)⟩
      · exact ⟨shRing, rfl, fun h => sh_ring h⟩
      · exact ⟨shTriples, rfl, fun h => sh_triples h⟩
      · exact ⟨shPairs, rfl, fun h => sh_pairs h⟩
      · exact ⟨[], rfl, fun h => sh_nil⟩
    obtain ⟨sh, e6, hsh⟩ := six
    rw [List.length_map]
    refine ⟨_, e6, fun h4 => ⟨fun h5 => ⟨fun h3 => ?_, fun h3 => ?_⟩, fun h5 => ?_⟩, fun h4 => ?_⟩
    · exact fin [shThree, []] (fun s hs => by
        simp only [List.mem_cons, List.not_mem_nil, or_false] at hs
        rcases hs with rfl | rfl
        · exact sh_three (by omega)
        · exact sh_nil) _ _ _ _ _
    · exact fin [[], []] (fun s hs => by
        simp only [List.mem_cons, List.not_mem_nil, or_false, or_self] at hs
        rw [hs]
        exact sh_nil) _ _ _ _ _
    · exact fin [[], []] (fun s hs => by
        simp only [List.mem_cons, List.not_mem_nil, or_false, or_self] at hs
        rw [hs]
        exact sh_nil) _ _ _ _ _
    · exact fin [sh, shThree, []] (fun s hs => by
        simp only [List.mem_cons, List.not_mem_nil, or_false] at hs
        rcases hs with rfl | rfl | rfl
        · exact hsh (by omega)
        · exact sh_three (by omega)
        · exact sh_nil) _ _ _ _ _
end Hx

set_option Elab.async false
set_option linter.all false
set_option maxRecDepth 100000
set_option maxHeartbeats 4000000
/-! P11: drawn scenarios. -/
namespace Hx
open PySem
local macro_rules | `(tactic| walk_at "hx") => `(tactic| simp only [E_v, E_lit, E_con, E_edct, E_tup, E_lst, E_neg, E_bin, E_cmp, E_chain, E_isN, E_not, E_and, E_or, EAnd_nil, EAnd_cons, EOr_nil, EOr_cons, E_ite, E_call, E_callk, E_bi, E_mkt, E_mkl, E_isa, E_idx, E_sl, E_rev, E_ixof, E_dzip, E_dget, E_comp, E_comp2, E_dcomp2, E_pop, Es_nil, Es_cons, Et_val, Et_not, Et_and, Et_or, ECs_nil, ECs_cons, EDs_nil, EDs_cons, EO_non, EO_som, EI_seq, EI_rng, EI_zip, EI_enm,
  St_asg, St_unp, St_setix, St_aug, St_ex, St_app, St_ext, St_ret, St_if, St_for, St_pas, Ss_nil, Ss_cons, Lit.d, List.getElem?_cons_zero, List.getElem?_cons_succ, List.set_cons_zero, List.set_cons_succ, List.length_cons, List.length_nil, List.map_cons, List.map_nil, List.replicate_succ, List.replicate_zero, List.cons_append, List.nil_append, Option.some.injEq, exists_eq_left', exists_eq_left, PyData.int.injEq, PyData.list.injEq, PyData.tuple.injEq, PyData.bool.injEq, PyData.str.injEq,
  ifB_tt, ifB_ff, ifB_dec, ifB_not, op_add, op_sub, op_mul, op_mod, op_fdiv, op_pow, op_addt, op_addl, cm_lt, cm_le, cm_gt, cm_ge, cm_eq, cm_ne, b_bool, t_bool, bi_len_l, bi_len_t, bi_tuple_l, bi_tuple_t, bi_list_l, bi_list_t, bi_int_i, bi_int_b, bi_absI, ix_list, ix_tuple, at_0, at_1, at_2, at_3, Bool.not_true, Bool.not_false, Nat.reduceSub, Nat.reduceAdd, neg_i, int_i, items_l, items_t, items_ll, exists_const, exists_and_left, ix30, ix31, ix32, own_v, own_tup, wipe_nil, wipe_cons, bindT_v, bindT_tup, setAll_nil, setAll_cons, true_and, and_true])
theorem eqv_ints_all : ∀ {a b : List Int}, PyData.eqvAll (a.map .int) (b.map .int) = decide (a = b)
  | [], [] => rfl
  | [], _ :: _ => rfl
  | _ :: _, [] => rfl
  | x :: a, y :: b => by
    show (PyData.eqv (.int x) (.int y) && PyData.eqvAll (a.map .int) (b.map .int)) = _
    rw [eqv_ints, eqv_ints_all, Bool.eq_iff_iff, Bool.and_eq_true, decide_eq_true_eq, decide_eq_true_eq, decide_eq_true_eq, List.cons.injEq]
theorem eqv_tI {a b : List Int} : PyData.eqv (tI a) (tI b) = decide (a = b) := eqv_ints_all
theorem plain_tI (c : List Int) : (tI c).plain = true := plain_ints c
theorem plainAll_tI : ∀ cs : List (List Int), PyData.plainAll (cs.map tI) = true
  | [] => rfl
  | c :: cs => by
    show ((tI c).plain && PyData.plainAll (cs.map tI)) = true
    rw [plain_tI, plainAll_tI cs]
    rfl
theorem any_tI {c : List Int} : ∀ {cs : List (List Int)}, ((cs.map tI).any fun y => PyData.eqv y (tI c)) = cs.contains c
  | [] => rfl
  | d :: cs => by
    rw [List.map_cons, List.any_cons, any_tI, eqv_tI, List.contains_cons, Bool.eq_iff_iff, Bool.or_eq_true, Bool.or_eq_true, decide_eq_true_eq, beq_iff_eq, eq_comm]
theorem inOk_tI {c : List Int} {cs : List (List Int)} : inOk (tI c) (cs.map tI) = true := by
  unfold inOk
  have d := depthAll_tI cs
  rw [plain_tI, plainAll_tI]
  have e : decide (min (PyData.depthAll (cs.map tI)) (tI c).depth ≤ 60) = true := decide_eq_true (by omega)
  rw [e]
  rfl
theorem cm_notin_tl {c : List Int} {cs : List (List Int)} {Q : Bool → Prop} : cmX .notin (tI c) (.list (cs.map tI)) Q ↔ Q (!cs.contains c) := by
  have e : cmpD .notin (tI c) (.list (cs.map tI)) = some (!cs.contains c) := by
    show (if inOk (tI c) (cs.map tI) = true then some (!(cs.map tI).any fun y => PyData.eqv y (tI c)) else none) = _
    rw [if_pos inOk_tI, any_tI]
  unfold cmX
  rw [e]
  simp only [Option.some.injEq, exists_eq_left']
theorem hasQ_tI {i : Int} {c : List Int} : hasQ i (tI c) = c.contains i := by
  show ((c.map PyData.int).map intV).contains i = _
  rw [List.map_map]
  have e : (intV ∘ PyData.int) = id := funext fun _ => rfl
  rw [e, List.map_id]
theorem CtxP.wide {n w w' : Int} {c : List Int} (h : CtxP n w c) (k : w ≤ w') : CtxP n w' c := ⟨h.ne, by have := h.len; omega, h.bet, h.asc⟩
theorem Ctxs.wide {n w w' : Int} {cs : List (List Int)} (h : Ctxs n w cs) (k : w ≤ w') : Ctxs n w' cs := ⟨h.nd, fun c hc => (h.each c hc).wide k⟩
theorem Ctxs.snoc {n w : Int} {cs : List (List Int)} {c : List Int} (h : Ctxs n w cs) (k : CtxP n w c) (nc : cs.contains c = false) : Ctxs n w (cs ++ [c]) := by
  refine ⟨List.nodup_append.mpr ⟨h.nd, by simp, fun a ha b hb z => ?_⟩, fun x hx => ?_⟩
  · rw [List.mem_singleton.mp hb] at z
    rw [z] at ha
    have : cs.contains c = true := by simpa using ha
    rw [nc] at this
    cases this
  · rcases List.mem_append.mp hx with h' | h'
    · exact h.each x h'
    · rw [List.mem_singleton.mp h']
      exact k
/-- a scenario -/
def dS (l : List Int) (cs : List (List Int)) : PyData := .tuple [tI l, .tuple (cs.map tI)]
structure Scen (most full width : Int) (l : List Int) (cs : List (List Int)) : Prop where
  sz : SizesP most full l
  ctx : Ctxs l.length width cs
  asc : asc (cs.map tI) = true
  cov : ∀ i : Nat, i < l.length → ∃ c ∈ cs, (i : Int) ∈ c
  len1 : 1 ≤ cs.length
  len2 : cs.length ≤ 21
theorem map_intV (l : List Int) : (l.map PyData.int).map intV = l := by
  rw [List.map_map]
  have e : (intV ∘ PyData.int) = id := funext fun _ => rfl
  rw [e, List.map_id]
theorem allBet_ints {lo hi : Int} {l : List Int} (h : ∀ x ∈ l, lo ≤ x ∧ x ≤ hi) : allBet lo hi (l.map .int) = true := by
  unfold allBet
  rw [List.all_eq_true]
  intro x hx
  obtain ⟨n, hn, rfl⟩ := List.mem_map.mp hx
  have := h n hn
  simp [isBet, this]
theorem isSizes_tI {most full : Int} {l : List Int} (h : SizesP most full l) (m8 : most ≤ 8) (f : full ≤ 256) : isSizes (tI l) = true := by
  have e : isSizes (tI l) = (decide (1 ≤ (l.map PyData.int).length ∧ (l.map PyData.int).length ≤ 8) && allBet 2 4 (l.map .int) && decide (prodI ((l.map PyData.int).map intV) ≤ 256)) := rfl
  have h1 := h.len1
  have h2 := h.len2
  have h3 := h.prod
  rw [e, map_intV, List.length_map, allBet_ints h.all, decide_eq_true (by omega), decide_eq_true (by omega)]
  rfl
theorem isCtx_tI {n w : Int} {c : List Int} (h : CtxP n w c) : isCtx n (tI c) = true := by
  have e : isCtx n (tI c) = (neNil (tI c) && (allBet 0 (n - 1) (c.map .int) && asc (c.map .int))) := rfl
  have ne : neNil (tI c) = true := by
    cases c with
    | nil => exact absurd rfl h.ne
    | cons x c => rfl
  rw [e, ne, allBet_ints (fun x hx => by have := h.bet x hx; omega), h.asc]
  rfl
theorem allQs_tI : ∀ {cs : List (List Int)} {i : Int}, (allQs (cs.map tI)).contains i = cs.any fun c => c.contains i := by
  intro cs i
  rw [allQs_any, List.any_map]
  exact any_congr fun c _ => hasQ_tI
theorem Scen.is {most full width : Int} {l : List Int} {cs : List (List Int)} (h : Scen most full width l cs) (m8 : most ≤ 8) (f : full ≤ 256) : isScen (dS l cs) = true := by
  show (isSizes (tI l) && (decide (1 ≤ (cs.map tI).length ∧ (cs.map tI).length ≤ 28) && (cs.map tI).all (isCtx (l.map PyData.int).length) && Hx.asc (cs.map tI) && decide ((putsD [] ((allQs (cs.map tI)).map fun q => (PyData.int q, PyData.bool true))).length = (l.map PyData.int).length))) = true
  have hq : ∀ q ∈ allQs (cs.map tI), 0 ≤ q ∧ q < (l.length : Int) := fun q hq => by
    have h1 : (allQs (cs.map tI)).contains q = true := by simpa using hq
    rw [allQs_tI, List.any_eq_true] at h1
    obtain ⟨c, hc, hcq⟩ := h1
    exact (h.ctx.each c hc).bet q (by simpa using hcq)
  have h1 := h.len1
  have h2 := h.len2
  rw [isSizes_tI h.sz m8 f, h.asc, List.length_map, List.length_map, decide_eq_true (by omega), covered_iff hq]
  have e1 : (cs.map tI).all (isCtx (l.length : Int)) = true := List.all_eq_true.mpr fun x hx => by
    obtain ⟨c, hc, rfl⟩ := List.mem_map.mp hx
    exact isCtx_tI (h.ctx.each c hc)
  have e2 : ((List.range l.length).all fun i => (allQs (cs.map tI)).contains (i : Int)) = true := List.all_eq_true.mpr fun i hi => by
    rw [allQs_tI, List.any_eq_true]
    obtain ⟨c, hc, hi'⟩ := h.cov i (List.mem_range.mp hi)
    exact ⟨c, hc, by simpa using hi'⟩
  rw [e1, e2]
  rfl
/-- sum([len(rows(sizes, c)) for c in cs]) -/
theorem cost_comp {Γ : List Callee} {ρ : Env} {c a i : Nat} {m : Mng} {l : List Int} {cs : List (List Int)} {P : PyData → Env → Prop} (g : Γ[c]? = some ⟨[], m⟩) (h : RowsS m) (hai : a ≠ i) (ha : ρ[a]? = some (some (tI l))) (hi : i < ρ.length) (hc : ∀ q ∈ cs, Asked l q) (hl : cs.length ≤ lim) (hP : P (.int (rowsSum l cs)) ρ) :
    compX Γ (.v i) .nil (.bi .len (.cons (.call c (.cons (.v a) (.cons (.v i) .nil))) .nil)) (cs.map tI) ρ fun x ρ1 => biX .sum [x] fun d => P d ρ1 := by
  refine comp_M (fun c => .int ((rowsL l ((itemsV c).map intV)).length : Nat)) (fun x hx => ⟨_, rfl, ?_⟩) (by rw [List.length_map]; exact hl) ?_
  · obtain ⟨q, hq, rfl⟩ := List.mem_map.mp hx
    walk_at "hx"
    refine ⟨tI l, ?_, tI q, ?_, ?_⟩
    · rw [List.getElem?_set_ne fun z => hai z.symm, List.getElem?_set_ne fun z => hai z.symm]
      exact ha
    · rw [List.getElem?_set_self (by rw [List.length_set]; exact hi)]
    · refine call_0 g ((h l q (hc q hq)).mono fun r hr => ?_)
      rw [hr]
      walk_at "hx"
      rw [List.length_map]
      have e : ((itemsV (tI q)).map intV) = q := map_intV q
      rw [e]
  · rw [k_sum_l (f := fun c => ((rowsL l ((itemsV c).map intV)).length : Int)) fun _ _ => rfl]
    have es : ((cs.map tI).map fun c => ((rowsL l ((itemsV c).map intV)).length : Int)).sum = rowsSum l cs := by
      unfold rowsSum
      rw [List.map_map]
      congr 1
      refine List.map_congr_left fun q _ => ?_
      show ((rowsL l ((q.map PyData.int).map intV)).length : Int) = _
      rw [map_intV]
    rw [es]
    exact hP
def ScenarioS (m : Mng) : Prop := ∀ (B : Nat) (d : PyData) (most full width lines : Int), Pot B d → B + 1000 ≤ potLim → 1 ≤ most → most ≤ 8 → 2 ≤ full → full ≤ 1000000 → 1 ≤ width → width ≤ 8 →
  T (fun p => ∃ l cs d', p.1 = dS l cs ∧ p.2 = [d'] ∧ Scen most full (max 3 width) l cs ∧ Pot (B + 600) d') (m [d, .int most, .int full, .int width, .int lines])
theorem scenario_s {Γ : List Callee} {c1 c2 c3 c4 c5 : Nat} {m1 m2 m3 m4 m5 : Mng} (g1 : Γ[c1]? = some ⟨[0], m1⟩) (h1 : SizesS m1) (g2 : Γ[c2]? = some ⟨[0], m2⟩) (h2 : CycleS m2) (g3 : Γ[c3]? = some ⟨[], m3⟩) (h3 : RowsS m3) (g4 : Γ[c4]? = some ⟨[0], m4⟩) (h4 : TakeS m4) (g5 : Γ[c5]? = some ⟨[0], m5⟩) (h5 : ContextS m5) : ScenarioS ((F_law_scenario c1 c2 c3 c4 c5).mng Γ) := by
  intro B d most full width lines hp hB mo1 mo8 f2 f6 w1 w8
  refine (mng_T (P := fun x o => ∃ l cs d', x = dS l cs ∧ o = [d'] ∧ Scen most full (max 3 width) l cs ∧ Pot (B + 600) d') rfl).mpr ?_
  unfold F_law_scenario
  walk_at "hx"
  refine call_1 g1 rfl rfl ((h1 B d most full hp (by omega) mo1 mo8 f2 f6).mono fun p hp1 => ?_)
  obtain ⟨l, d1, e1, e1', sz, hp1⟩ := hp1
  refine ⟨d1, e1', ?_⟩
  rw [e1]
  have hl8 : l.length ≤ 8 := by have := sz.len2; omega
  walk_at "hx"
  refine call_1 g2 rfl rfl ((h2 _ d1 l lines hp1 (by omega) sz.len1 hl8 sz.all).mono fun p hp2 => ?_)
  obtain ⟨cs0, d2, e2, e2', cx0, c6, hp2⟩ := hp2
  refine ⟨d2, e2', ?_⟩
  rw [e2]
  walk_at "hx"
  have hask : ∀ {q w}, CtxP l.length w q → w ≤ 9 → Asked l q := fun hq hw => askedOf sz.all hq hw
  refine cost_comp g3 h3 (by decide) rfl (by simp) (fun q hq => hask (cx0.each q hq) (by decide)) (by unfold lim; omega) ?_
  walk_at "hx"
  refine call_take g4 h4 hp2 (by omega) (by omega) (by omega) rfl rfl fun r d3 r0 r1 hp3 => ?_
  walk_at "hx"
  rw [rng_i (by omega) (by omega)]
  refine ⟨_, rfl, ?_⟩
  have w3 : (3 : Int) ≤ max 3 width := by omega
  have ww : width ≤ max 3 width := by omega
  refine loop_T (I := fun i ρ => ∃ pd cs left o8 o10 o11, ρ = [some pd, some (.int most), some (.int full), some (.int width), some (.int lines), some (tI l), some (.list (cs.map tI)), some (.int left), o8, none, o10, o11] ∧ Pot (B + 21 + 60 * i) pd ∧ Ctxs l.length (max 3 width) cs ∧ cs.length ≤ 6 + i) ?_ ?_ ?_
  · exact ⟨d3, cs0, _, none, none, none, rfl, hp3, cx0.wide w3, by omega⟩
  · rintro i x ρ hx ⟨pd, cs, left, o8, o10, o11, rfl, q1, q2, q3⟩
    obtain ⟨hi, rfl⟩ := rng_get hx
    refine ⟨_, rfl, ?_⟩
    unfold tI
    walk_at "hx"
    rw [List.length_map]
    refine call_1 g5 rfl rfl ((h5 _ pd l.length width q1 (by omega) (by have := sz.len1; omega) (by omega) w1 (by omega)).mono fun p hp4 => ?_)
    obtain ⟨c, d4, e4, e4', hc, hp4⟩ := hp4
    refine ⟨d4, e4', ?_⟩
    rw [e4]
    walk_at "hx"
    refine call_0 g3 ((h3 l c (hask hc (by omega))).mono fun p hp5 => ?_)
    rw [hp5]
    walk_at "hx"
    rw [show (fun a : List Int => PyData.tuple (a.map .int)) = tI from rfl, cm_notin_tl]
    walk_at "hx"
    have keep : ∀ left' o10' o11', ∃ pd' cs' left'' o8' o10 o11, [some d4, some (.int most), some (.int full), some (.int width), some (.int lines), some (.tuple (l.map .int)), some (.list (cs.map tI)), some (.int left'), some (.int (i : Int)), none, o10', o11'] = [some pd', some (.int most), some (.int full), some (.int width), some (.int lines), some (.tuple (l.map .int)), some (.list (cs'.map tI)), some (.int left''), o8', none, o10, o11] ∧ Pot (B + 21 + 60 * (i + 1)) pd' ∧ Ctxs l.length (max 3 width) cs' ∧ cs'.length ≤ 6 + (i + 1) :=
      fun left' o10' o11' => ⟨d4, cs, left', _, o10', o11', rfl, hp4.mono (by omega), q2, by omega⟩
    refine ⟨fun hcc => keep _ _ _, fun hcc => ?_⟩
    rw [k_sum_t (f := fun s : Int => s) fun _ _ => rfl]
    walk_at "hx"
    refine ⟨fun hle => ⟨by rw [List.length_map]; unfold lim; omega, d4, cs ++ [c], _, _, _, _, by rw [List.map_append]; rfl, hp4.mono (by omega), q2.snoc (hc.wide ww) hcc, by rw [List.length_append, List.length_singleton]; omega⟩, fun hle => keep _ _ _⟩
  · rintro ρ ⟨pd, cs, left, o8, o10, o11, rfl, q1, q2, q3⟩
    rw [List.length_map, List.length_range] at q1 q3
    unfold tI
    walk_at "hx"
    rw [List.length_map, rng_i (by omega) (by omega), Int.toNat_natCast]
    refine ⟨_, rfl, ?_⟩
    rw [show (fun a : List Int => PyData.tuple (a.map .int)) = tI from rfl]
    refine loop_T (I := fun i ρ => ∃ cs o9 o10, ρ = [some pd, some (.int most), some (.int full), some (.int width), some (.int lines), some (.tuple (l.map .int)), some (.list (cs.map tI)), some (.int left), o8, o9, o10, o11] ∧ Ctxs l.length (max 3 width) cs ∧ cs.length ≤ 13 + i ∧ ∀ j : Nat, j < i → ∃ c ∈ cs, (j : Int) ∈ c) ?_ ?_ ?_
    · exact ⟨cs, none, o10, rfl, q2, by omega, fun j hj => absurd hj (by omega)⟩
    · rintro i x ρ hx ⟨cs, o9, o10, rfl, r1, r2, r3⟩
      obtain ⟨hi, rfl⟩ := rng_get hx
      refine ⟨_, rfl, ?_⟩
      walk_at "hx"
      refine comp_M (fun c => .bool (hasQ i c)) (fun z hz => ⟨_, rfl, ?_⟩) (by rw [List.length_map]; unfold lim; omega) ?_
      · obtain ⟨c, hc, rfl⟩ := List.mem_map.mp hz
        unfold tI
        walk_at "hx"
        rw [cm_in_t]
        exact (hasQ_tI (i := i) (c := c)).symm
      · rw [k_any (f := hasQ i) fun _ _ => rfl]
        walk_at "hx"
        have ea : ((cs.map tI).any (hasQ i)) = cs.any fun c => c.contains (i : Int) := by
          rw [List.any_map]
          exact any_congr fun c _ => hasQ_tI
        rw [ea]
        refine ⟨fun hc => ⟨cs, _, _, rfl, r1, by omega, fun j hj => ?_⟩, fun hc => ⟨by rw [List.length_map]; unfold lim; omega, cs ++ [[(i : Int)]], _, _, by rw [List.map_append]; rfl, ?_, by rw [List.length_append, List.length_singleton]; omega, fun j hj => ?_⟩⟩
        · by_cases e : j = i
          · subst e
            obtain ⟨c, hc, hj⟩ := List.any_eq_true.mp hc
            exact ⟨c, hc, by simpa using hj⟩
          · exact r3 j (by omega)
        · refine r1.snoc ⟨by simp, by simp; omega, fun q hq => by rw [List.mem_singleton.mp hq]; omega, rfl⟩ ?_
          cases hh : cs.contains [(i : Int)] with
          | false => rfl
          | true =>
            have hm : [(i : Int)] ∈ cs := by simpa using hh
            have : (cs.any fun c => c.contains (i : Int)) = true := List.any_eq_true.mpr ⟨_, hm, by simp⟩
            rw [hc] at this
            cases this
        · by_cases e : j = i
          · subst e
            exact ⟨[(j : Int)], by simp, by simp⟩
          · obtain ⟨c, hc, hj⟩ := r3 j (by omega)
            exact ⟨c, List.mem_append_left _ hc, hj⟩
    · rintro ρ ⟨cs, o9, o10, rfl, r1, r2, r3⟩
      rw [List.length_map, List.length_range] at r2 r3
      walk_at "hx"
      rw [bi_sorted_tuples (by unfold lim; omega) fun c hc => (r1.each c hc).ne]
      obtain ⟨ds, es, pm⟩ := sort_tuples cs
      have ha := sort_asc (ord_tuples cs) (nodup_map (fun a b h => tI_inj h) r1.nd)
      rw [es] at ha
      rw [es]
      walk_at "hx"
      have l1 := sz.len1
      refine ⟨?_, l, ds, rfl, pd, rfl, ⟨sz, ⟨pm.nodup_iff.mpr r1.nd, fun c hc => r1.each c (pm.mem_iff.mp hc)⟩, ha, fun i hi => ?_, ?_, by have := pm.length_eq; omega⟩, q1.mono (by omega)⟩
      · obtain ⟨a, b, c, rfl, _⟩ := q1.ex
        rfl
      · obtain ⟨c, hc, hj⟩ := r3 i hi
        exact ⟨c, pm.mem_iff.mpr hc, hj⟩
      · obtain ⟨c, hc, _⟩ := r3 0 (by omega)
        have := pm.length_eq
        have := List.length_pos_of_mem hc
        omega
end Hx

set_option Elab.async false
set_option linter.all false
set_option maxRecDepth 100000
set_option maxHeartbeats 4000000
/-! P12: values that can be shown. -/
namespace Hx
open PySem
local macro_rules | `(tactic| walk_at "hx") => `(tactic| simp only [E_v, E_lit, E_con, E_edct, E_tup, E_lst, E_neg, E_bin, E_cmp, E_chain, E_isN, E_not, E_and, E_or, EAnd_nil, EAnd_cons, EOr_nil, EOr_cons, E_ite, E_call, E_callk, E_bi, E_mkt, E_mkl, E_isa, E_idx, E_sl, E_rev, E_ixof, E_dzip, E_dget, E_comp, E_comp2, E_dcomp2, E_pop, Es_nil, Es_cons, Et_val, Et_not, Et_and, Et_or, ECs_nil, ECs_cons, EDs_nil, EDs_cons, EO_non, EO_som, EI_seq, EI_rng, EI_zip, EI_enm,
  St_asg, St_unp, St_setix, St_aug, St_ex, St_app, St_ext, St_ret, St_if, St_for, St_pas, Ss_nil, Ss_cons, Lit.d, List.getElem?_cons_zero, List.getElem?_cons_succ, List.set_cons_zero, List.set_cons_succ, List.length_cons, List.length_nil, List.map_cons, List.map_nil, List.replicate_succ, List.replicate_zero, List.cons_append, List.nil_append, Option.some.injEq, exists_eq_left', exists_eq_left, PyData.int.injEq, PyData.list.injEq, PyData.tuple.injEq, PyData.bool.injEq, PyData.str.injEq,
  ifB_tt, ifB_ff, ifB_dec, ifB_not, op_add, op_sub, op_mul, op_mod, op_fdiv, op_pow, op_addt, op_addl, cm_lt, cm_le, cm_gt, cm_ge, cm_eq, cm_ne, b_bool, t_bool, bi_len_l, bi_len_t, bi_tuple_l, bi_tuple_t, bi_list_l, bi_list_t, bi_int_i, bi_int_b, bi_absI, ix_list, ix_tuple, at_0, at_1, at_2, at_3, Bool.not_true, Bool.not_false, Nat.reduceSub, Nat.reduceAdd, neg_i, int_i, items_l, items_t, items_ll, exists_const, exists_and_left, ix30, ix31, ix32, own_v, own_tup, wipe_nil, wipe_cons, bindT_v, bindT_tup, setAll_nil, setAll_cons, true_and, and_true])
/-- depth, weight; no dict within (b) or no list -/
structure Fine (b : Bool) (dp w : Nat) (d : PyData) : Prop where
  sh : d.showable = true
  dep : d.depth ≤ dp
  lv : d.leavesShort 13 = true
  wt : d.weight ≤ w
  dl : (if b = true then d.hasDict = false else noL d = true)
theorem Fine.mono {b : Bool} {dp w dp' w' : Nat} {d : PyData} (h : Fine b dp w d) (h1 : dp ≤ dp') (h2 : w ≤ w') : Fine b dp' w' d := ⟨h.sh, Nat.le_trans h.dep h1, h.lv, Nat.le_trans h.wt h2, h.dl⟩
/-- each of them, and in all -/
structure FineL (b : Bool) (dp w : Nat) (xs : List PyData) : Prop where
  sh : PyData.showableAll xs = true
  dep : PyData.depthAll xs ≤ dp
  lv : PyData.leavesShortAll 13 xs = true
  wt : PyData.weightAll xs ≤ w
  dl : (if b = true then PyData.hasDictAll xs = false else noLs xs = true)
theorem FineL.nil {b : Bool} {dp w : Nat} : FineL b dp w [] := ⟨rfl, Nat.zero_le _, rfl, Nat.zero_le _, by cases b <;> rfl⟩
theorem FineL.cons {b : Bool} {dp w v : Nat} {x : PyData} {xs : List PyData} (h : Fine b dp w x) (k : FineL b dp v xs) : FineL b dp (w + 1 + v) (x :: xs) := by
  refine ⟨?_, ?_, ?_, ?_, ?_⟩
  · simp only [PyData.showableAll, h.sh, k.sh, Bool.and_self]
  · have := h.dep
    have := k.dep
    simp only [PyData.depthAll]
    omega
  · simp only [PyData.leavesShortAll, h.lv, k.lv, Bool.and_self]
  · have := h.wt
    have := k.wt
    simp only [PyData.weightAll]
    omega
  · have h1 := h.dl
    have h2 := k.dl
    cases b with
    | true =>
      rw [if_pos rfl] at h1 h2 ⊢
      simp only [PyData.hasDictAll, h1, h2, Bool.or_self]
    | false =>
      rw [if_neg (by decide)] at h1 h2 ⊢
      simp only [noLs, h1, h2, Bool.and_self]
theorem FineL.each {b : Bool} {dp w : Nat} : ∀ {xs : List PyData}, (∀ x ∈ xs, Fine b dp w x) → FineL b dp (xs.length * (w + 1)) xs
  | [], _ => .nil
  | x :: xs, h => by
    have := FineL.cons (h x List.mem_cons_self) (FineL.each fun y hy => h y (List.mem_cons_of_mem _ hy))
    refine ⟨this.sh, this.dep, this.lv, Nat.le_trans this.wt ?_, this.dl⟩
    rw [List.length_cons, Nat.add_mul]
    omega
theorem FineL.mono {b : Bool} {dp w dp' w' : Nat} {d : List PyData} (h : FineL b dp w d) (h1 : dp ≤ dp') (h2 : w ≤ w') : FineL b dp' w' d := ⟨h.sh, Nat.le_trans h.dep h1, h.lv, Nat.le_trans h.wt h2, h.dl⟩
theorem FineL.tuple {b : Bool} {dp w : Nat} {xs : List PyData} (h : FineL b dp w xs) : Fine b (dp + 1) w (.tuple xs) := by
  refine ⟨?_, ?_, ?_, ?_, ?_⟩
  · simp only [PyData.showable]; exact h.sh
  · have := h.dep
    simp only [PyData.depth]
    omega
  · simp only [PyData.leavesShort]; exact h.lv
  · simp only [PyData.weight]; exact h.wt
  · have h1 := h.dl
    cases b with
    | true =>
      rw [if_pos rfl] at h1 ⊢
      simp only [PyData.hasDict, h1]
    | false =>
      rw [if_neg (by decide)] at h1 ⊢
      simp only [noL, h1]
theorem FineL.list {dp w : Nat} {xs : List PyData} (h : FineL true dp w xs) : Fine true (dp + 1) w (.list xs) := by
  refine ⟨?_, ?_, ?_, ?_, ?_⟩
  · simp only [PyData.showable]; exact h.sh
  · have := h.dep
    simp only [PyData.depth]
    omega
  · simp only [PyData.leavesShort]; exact h.lv
  · simp only [PyData.weight]; exact h.wt
  · have h1 := h.dl
    rw [if_pos rfl] at h1 ⊢
    simp only [PyData.hasDict, h1]
theorem fine_int {b : Bool} {i : Int} (h : i.natAbs < 10 ^ 12) : Fine b 0 41 (.int i) := by
  have hl : i.natAbs.log2 < 40 := by
    refine lg_of (by decide) (Nat.lt_of_lt_of_le h (by decide))
  refine ⟨?_, Nat.zero_le _, ?_, ?_, by cases b <;> rfl⟩
  · simp only [PyData.showable, decide_eq_true_eq]
    omega
  · simp only [PyData.leavesShort, decide_eq_true_eq]
    exact PyData.shown_int_le h
  · simp only [PyData.weight]
    split <;> omega
/-- a small int -/
theorem fine_small {b : Bool} {i : Int} (h : -8 ≤ i ∧ i ≤ 15) : Fine b 0 4 (.int i) := by
  have h2 := fine_int (b := b) (i := i) (by omega)
  refine ⟨h2.sh, h2.dep, h2.lv, ?_, h2.dl⟩
  have hl : i.natAbs.log2 < 4 := lg_of (by decide) (by omega)
  simp only [PyData.weight]
  split <;> omega
theorem fine_non {b : Bool} : Fine b 0 0 .none := ⟨rfl, Nat.zero_le _, rfl, Nat.zero_le _, by cases b <;> rfl⟩
theorem fine_bool {b k : Bool} : Fine b 0 0 (.bool k) := ⟨rfl, Nat.zero_le _, rfl, Nat.zero_le _, by cases b <;> rfl⟩
theorem fine_tI {b : Bool} {l : List Int} (h : ∀ x ∈ l, -8 ≤ x ∧ x ≤ 15) : Fine b 1 (l.length * 5) (tI l) := by
  have := FineL.each (b := b) (dp := 0) (w := 4) (xs := l.map .int) fun x hx => by
    obtain ⟨i, hi, rfl⟩ := List.mem_map.mp hx
    exact fine_small (h i hi)
  rw [List.length_map] at this
  exact this.tuple
theorem Fine.shown {b : Bool} {w : Nat} {d : PyData} (h : Fine b 60 w d) (hw : w ≤ 60000) : (d.showable && decide (d.depth ≤ 60) && decide (d.shown.length ≤ lim)) = true ∧ (!d.hasDict || noL d) = true := by
  have := PyData.shown_le 13 (by decide) d h.lv
  have hwt := h.wt
  refine ⟨?_, ?_⟩
  · rw [h.sh, decide_eq_true h.dep, decide_eq_true (by unfold lim; omega)]
    rfl
  · have h1 := h.dl
    cases b with
    | true =>
      rw [if_pos rfl] at h1
      rw [h1]
      rfl
    | false =>
      rw [if_neg (by decide)] at h1
      rw [h1, Bool.or_true]
theorem Fine.repr {b : Bool} {w : Nat} {d : PyData} {P : PyData → Prop} (h : Fine b 60 w d) (hw : w ≤ 60000) : biX .repr [d] P ↔ P (.str d.shown) := by
  obtain ⟨h1, h2⟩ := h.shown hw
  have e : biD .repr [d] = some (.str d.shown) := by
    show (if (d.showable && decide (d.depth ≤ 60) && decide (d.shown.length ≤ lim)) && (!d.hasDict || noL d) then some (PyData.str d.shown) else none) = _
    rw [h1, h2]
    rfl
  unfold biX
  rw [e]
  simp
theorem wt_len : ∀ {xs : List PyData}, xs.length ≤ PyData.weightAll xs
  | [] => Nat.zero_le _
  | x :: xs => by
    have := wt_len (xs := xs)
    simp only [PyData.weightAll, List.length_cons]
    omega
theorem wt_mem : ∀ {xs : List PyData} {x : PyData}, x ∈ xs → x.weight ≤ PyData.weightAll xs
  | y :: xs, x, h => by
    simp only [PyData.weightAll]
    rcases List.mem_cons.mp h with e | h
    · rw [e]; omega
    · have := wt_mem h
      omega
theorem shortT_of {d : PyData} (h : d.weight ≤ lim) : shortT d := by
  cases d with
  | tuple xs =>
    have h' : PyData.weightAll xs ≤ lim := by simpa only [PyData.weight] using h
    exact Nat.le_trans wt_len h'
  | _ => trivial
theorem shortT2_of {d : PyData} (h : d.weight ≤ lim) : shortT2 d := by
  cases d with
  | tuple xs =>
    have h' : PyData.weightAll xs ≤ lim := by simpa only [PyData.weight] using h
    exact ⟨Nat.le_trans wt_len h', fun x hx => shortT_of (Nat.le_trans (wt_mem hx) h')⟩
  | _ => trivial
theorem Fine.short {b : Bool} {dp w : Nat} {d : PyData} (h : Fine b dp w d) (hw : w ≤ lim) : shortD d := by
  cases d with
  | tuple xs =>
    have h' : PyData.weightAll xs ≤ lim := by
      have := h.wt
      simp only [PyData.weight] at this
      omega
    exact ⟨Nat.le_trans wt_len h', fun x hx => shortT2_of (Nat.le_trans (wt_mem hx) h')⟩
  | _ => trivial
theorem cm_ne_str {x y : Str} {Q : Bool → Prop} : cmX .ne (.str x) (.str y) Q ↔ Q (!(x == y)) := by
  have ok : eqOk (.str x) (.str y) = true := by simp [eqOk, PyData.plain, PyData.depth]
  have e : cmpD .ne (.str x) (.str y) = some (!(x == y)) := by
    show (if eqOk (.str x) (.str y) = true then some (!PyData.eqv (.str x) (.str y)) else none) = _
    rw [if_pos ok]
    rfl
  unfold cmX
  rw [e]
  simp only [Option.some.injEq, exists_eq_left']
theorem cm_ne_bool {x y : Bool} {Q : Bool → Prop} : cmX .ne (.bool x) (.bool y) Q ↔ Q (!(x == y)) := by
  have ok : eqOk (.bool x) (.bool y) = true := by simp [eqOk, PyData.plain, PyData.depth]
  have e : cmpD .ne (.bool x) (.bool y) = some (!(x == y)) := by
    show (if eqOk (.bool x) (.bool y) = true then some (!PyData.eqv (.bool x) (.bool y)) else none) = _
    rw [if_pos ok]
    rfl
  unfold cmX
  rw [e]
  simp only [Option.some.injEq, exists_eq_left']
theorem eqOk_tI {a b : List Int} : eqOk (tI a) (tI b) = true := by
  have h1 := depth_tI a
  unfold eqOk
  rw [plain_tI, plain_tI, decide_eq_true (show min (tI a).depth (tI b).depth ≤ 60 by omega)]
  rfl
theorem cm_ne_tI {a b : List Int} {Q : Bool → Prop} : cmX .ne (tI a) (tI b) Q ↔ Q (!decide (a = b)) := by
  have e : cmpD .ne (tI a) (tI b) = some (!decide (a = b)) := by
    show (if eqOk (tI a) (tI b) = true then some (!PyData.eqv (tI a) (tI b)) else none) = _
    rw [if_pos eqOk_tI, eqv_tI]
  unfold cmX
  rw [e]
  simp only [Option.some.injEq, exists_eq_left']
/-! ### slices keep what they show -/
theorem cut_sub (xs : List PyData) (lo hi : Option Int) : (cutL xs lo hi).Sublist xs := (List.take_sublist _ _).trans (List.drop_sublist _ _)
theorem cut_len (xs : List PyData) (lo hi : Option Int) : (cutL xs lo hi).length ≤ xs.length := (cut_sub xs lo hi).length_le
theorem slX_t {xs : List PyData} {l h : Option Int} {P : PyData → Prop} : slX (.tuple xs) l h P ↔ P (.tuple (cutL xs l h)) := by simp [slX, sliceD]
end Hx

set_option Elab.async false
set_option linter.all false
set_option maxRecDepth 100000
set_option maxHeartbeats 4000000
/-! P13: bent things. -/
namespace Hx
open PySem
local macro_rules | `(tactic| walk_at "hx") => `(tactic| simp only [E_v, E_lit, E_con, E_edct, E_tup, E_lst, E_neg, E_bin, E_cmp, E_chain, E_isN, E_not, E_and, E_or, EAnd_nil, EAnd_cons, EOr_nil, EOr_cons, E_ite, E_call, E_callk, E_bi, E_mkt, E_mkl, E_isa, E_idx, E_sl, E_rev, E_ixof, E_dzip, E_dget, E_comp, E_comp2, E_dcomp2, E_pop, Es_nil, Es_cons, Et_val, Et_not, Et_and, Et_or, ECs_nil, ECs_cons, EDs_nil, EDs_cons, EO_non, EO_som, EI_seq, EI_rng, EI_zip, EI_enm,
  St_asg, St_unp, St_setix, St_aug, St_ex, St_app, St_ext, St_ret, St_if, St_for, St_pas, Ss_nil, Ss_cons, Lit.d, List.getElem?_cons_zero, List.getElem?_cons_succ, List.set_cons_zero, List.set_cons_succ, List.length_cons, List.length_nil, List.map_cons, List.map_nil, List.replicate_succ, List.replicate_zero, List.cons_append, List.nil_append, Option.some.injEq, exists_eq_left', exists_eq_left, PyData.int.injEq, PyData.list.injEq, PyData.tuple.injEq, PyData.bool.injEq, PyData.str.injEq,
  ifB_tt, ifB_ff, ifB_dec, ifB_not, op_add, op_sub, op_mul, op_mod, op_fdiv, op_pow, op_addt, op_addl, cm_lt, cm_le, cm_gt, cm_ge, cm_eq, cm_ne, b_bool, t_bool, bi_len_l, bi_len_t, bi_tuple_l, bi_tuple_t, bi_list_l, bi_list_t, bi_int_i, bi_int_b, bi_absI, ix_list, ix_tuple, at_0, at_1, at_2, at_3, Bool.not_true, Bool.not_false, Nat.reduceSub, Nat.reduceAdd, neg_i, int_i, items_l, items_t, items_ll, exists_const, exists_and_left, ix30, ix31, ix32, own_v, own_tup, wipe_nil, wipe_cons, bindT_v, bindT_tup, setAll_nil, setAll_cons, true_and, and_true])
def Odd (dp w : Nat) (x : PyData) : Prop := ∃ b, Fine b dp w x
def Both (dp w : Nat) (x : PyData) : Prop := ∀ b, Fine b dp w x
theorem Both.odd {dp w : Nat} {x : PyData} (h : Both dp w x) : Odd dp w x := ⟨true, h true⟩
theorem Odd.mono {dp w dp' w' : Nat} {x : PyData} (h : Odd dp w x) (h1 : dp ≤ dp') (h2 : w ≤ w') : Odd dp' w' x := by
  obtain ⟨b, h⟩ := h
  exact ⟨b, h.mono h1 h2⟩
theorem Both.mono {dp w dp' w' : Nat} {x : PyData} (h : Both dp w x) (h1 : dp ≤ dp') (h2 : w ≤ w') : Both dp' w' x := fun b => (h b).mono h1 h2
theorem both_int {i : Int} (h : -8 ≤ i ∧ i ≤ 15) : Both 0 4 (.int i) := fun _ => fine_small h
theorem both_non : Both 0 0 .none := fun _ => fine_non
theorem both_bool {k : Bool} : Both 0 0 (.bool k) := fun _ => fine_bool
theorem both_tI {l : List Int} (h : ∀ x ∈ l, -8 ≤ x ∧ x ≤ 15) : Both 1 (l.length * 5) (tI l) := fun _ => fine_tI h
theorem both_tup {dp w n : Nat} {xs : List PyData} (h : ∀ x ∈ xs, Both dp w x) (hn : xs.length ≤ n) : Both (dp + 1) (n * (w + 1)) (.tuple xs) := fun b =>
  ((FineL.each fun x hx => h x hx b).mono (Nat.le_refl _) (Nat.mul_le_mul_right _ hn)).tuple
theorem odd_list {dp w n : Nat} {xs : List PyData} (h : ∀ x ∈ xs, Both dp w x) (hn : xs.length ≤ n) : Odd (dp + 1) (n * (w + 1)) (.list xs) :=
  ⟨true, ((FineL.each fun x hx => h x hx true).mono (Nat.le_refl _) (Nat.mul_le_mul_right _ hn)).list⟩
/-- one odd thing among others -/
theorem odd_tup {dp w n : Nat} {xs ys : List PyData} {t : PyData} (h : ∀ x ∈ xs, Both dp w x) (ht : Odd dp w t) (k : ∀ x ∈ ys, Both dp w x) (hn : xs.length + 1 + ys.length ≤ n) : Odd (dp + 1) (n * (w + 1)) (.tuple (xs ++ [t] ++ ys)) := by
  obtain ⟨b, ht⟩ := ht
  refine ⟨b, ((FineL.each fun x hx => ?_).mono (Nat.le_refl _) (Nat.mul_le_mul_right _ (by simp only [List.length_append, List.length_singleton]; exact hn))).tuple⟩
  rcases List.mem_append.mp hx with hx | hx
  · rcases List.mem_append.mp hx with hx | hx
    · exact h x hx b
    · rw [List.mem_singleton.mp hx]; exact ht
  · exact k x hx b
theorem fine_kv {kvs : List (PyData × PyData)} (h : ∀ p ∈ kvs, (∃ i : Int, p.1 = .int i ∧ -8 ≤ i ∧ i ≤ 15) ∧ p.2 = .int 1) : Fine false 1 (kvs.length * 10) (.dict kvs) := by
  have go : ∀ kvs : List (PyData × PyData), (∀ p ∈ kvs, (∃ i : Int, p.1 = .int i ∧ -8 ≤ i ∧ i ≤ 15) ∧ p.2 = .int 1) → PyData.showableKv kvs = true ∧ PyData.depthKv kvs = 0 ∧ PyData.leavesShortKv 13 kvs = true ∧ PyData.weightKv kvs ≤ kvs.length * 10 ∧ noLk kvs = true := by
    intro kvs
    induction kvs with
    | nil => intro _; exact ⟨rfl, rfl, rfl, Nat.zero_le _, rfl⟩
    | cons p kvs ih =>
      intro h
      obtain ⟨a, b⟩ := p
      obtain ⟨⟨i, e1, hi⟩, e2⟩ := h (a, b) List.mem_cons_self
      cases e1
      cases e2
      obtain ⟨h1, h2, h3, h4, h5⟩ := ih fun q hq => h q (List.mem_cons_of_mem _ hq)
      have f := fine_small (b := true) hi
      have f1 := fine_small (b := true) (i := 1) (by decide)
      refine ⟨?_, ?_, ?_, ?_, ?_⟩
      · simp only [PyData.showableKv, f.sh, f1.sh, h1, Bool.and_self]
      · simp only [PyData.depthKv, PyData.depth, h2, Nat.max_self]
      · simp only [PyData.leavesShortKv, f.lv, f1.lv, h3, Bool.and_self]
      · have := f.wt
        have := f1.wt
        simp only [PyData.weightKv, List.length_cons]
        omega
      · simp only [noLk, noL, h5, Bool.and_self]
  obtain ⟨h1, h2, h3, h4, h5⟩ := go kvs h
  refine ⟨?_, ?_, ?_, ?_, ?_⟩
  · simp only [PyData.showable]; exact h1
  · simp only [PyData.depth]; omega
  · simp only [PyData.leavesShort]; exact h3
  · simp only [PyData.weight]; exact h4
  · rw [if_neg (by decide)]
    simp only [noL]; exact h5
theorem putD_each {Q : PyData → Prop} {V : PyData → Prop} {kvs : List (PyData × PyData)} {k v : PyData} (h : ∀ p ∈ kvs, Q p.1 ∧ V p.2) (hk : Q k) (hv : V v) : (∀ p ∈ putD kvs k v, Q p.1 ∧ V p.2) ∧ (putD kvs k v).length ≤ kvs.length + 1 := by
  unfold putD
  split
  · refine ⟨fun p hp => ?_, by rw [List.length_map]; omega⟩
    obtain ⟨q, hq, rfl⟩ := List.mem_map.mp hp
    split
    · exact ⟨(h q hq).1, hv⟩
    · exact h q hq
  · refine ⟨fun p hp => ?_, by rw [List.length_append]; simp⟩
    rcases List.mem_append.mp hp with hp | hp
    · exact h p hp
    · rw [List.mem_singleton.mp hp]; exact ⟨hk, hv⟩
theorem putsD_each {Q : PyData → Prop} {V : PyData → Prop} : ∀ {more kvs : List (PyData × PyData)}, (∀ p ∈ kvs, Q p.1 ∧ V p.2) → (∀ p ∈ more, Q p.1 ∧ V p.2) → (∀ p ∈ putsD kvs more, Q p.1 ∧ V p.2) ∧ (putsD kvs more).length ≤ kvs.length + more.length
  | [], kvs, h, _ => ⟨h, Nat.le_add_right _ _⟩
  | (k, v) :: more, kvs, h, k' => by
    obtain ⟨h1, h2⟩ := putD_each h (k' (k, v) List.mem_cons_self).1 (k' (k, v) List.mem_cons_self).2
    obtain ⟨h3, h4⟩ := putsD_each (more := more) h1 fun p hp => k' p (List.mem_cons_of_mem _ hp)
    refine ⟨h3, ?_⟩
    show (putsD (putD kvs k v) more).length ≤ _
    rw [List.length_cons]
    dsimp only at h2 h4
    omega
/-- dict([(q, 1) for q in ..]) -/
theorem bi_dict_ones {l : List Int} {P : PyData → Prop} (hl : ∀ x ∈ l, -8 ≤ x ∧ x ≤ 15) (h : ∀ d, Odd 1 (l.length * 10) d → P d) : biX .dict [.list ((l.map PyData.int).map fun q => .tuple [q, .int 1])] P := by
  have e : ∀ l : List Int, pairsOf ((l.map PyData.int).map fun q => .tuple [q, .int 1]) = some (l.map fun i => (PyData.int i, PyData.int 1)) := by
    intro l
    induction l with
    | nil => rfl
    | cons x l ih =>
      show (pairsOf ((l.map PyData.int).map fun q => .tuple [q, .int 1])).map _ = _
      rw [ih]
      rfl
  refine ⟨.dict (putsD [] (l.map fun i => (PyData.int i, PyData.int 1))), ?_, h _ ?_⟩
  · show (match pairsOf ((l.map PyData.int).map fun q => .tuple [q, .int 1]) with
      | some kvs => if kvs.all fun p => keyOk p.1 then some (PyData.dict (putsD [] kvs)) else none
      | none => none) = _
    rw [e]
    dsimp only
    rw [if_pos (List.all_eq_true.mpr fun p hp => ?_)]
    obtain ⟨i, _, rfl⟩ := List.mem_map.mp hp
    rfl
  · obtain ⟨h1, h2⟩ := putsD_each (Q := fun d => ∃ i : Int, d = .int i ∧ -8 ≤ i ∧ i ≤ 15) (V := fun d => d = .int 1) (kvs := []) (more := l.map fun i => (PyData.int i, PyData.int 1)) (fun p hp => by cases hp) fun p hp => by
      obtain ⟨i, hi, rfl⟩ := List.mem_map.mp hp
      exact ⟨⟨i, rfl, hl i hi⟩, rfl⟩
    rw [List.length_map, List.length_nil] at h2
    exact ⟨false, (fine_kv h1).mono (Nat.le_refl _) (by omega)⟩
/-! ### put -/
def putR (xs : List PyData) (n : Nat) (t : PyData) : PyData := .tuple (xs.take n ++ [t] ++ xs.drop (n + 1))
def PutS (m : Mng) : Prop := ∀ (xs : List PyData) (n : Nat) (t : PyData), xs.length ≤ 1000 → T (fun p => p.1 = putR xs n t) (m [.tuple xs, .int n, t])
theorem put_s {Γ : List Callee} : PutS (F_law_put.mng Γ) := by
  intro xs n t hl
  refine (mng_T (P := fun x _ => x = putR xs n t) rfl).mpr ?_
  unfold F_law_put
  walk_at "hx"
  rw [slX_t]
  walk_at "hx"
  have h1 : (cutL xs none (some (n : Int))).length ≤ xs.length := cut_len _ _ _
  refine ⟨by unfold lim; omega, ?_⟩
  rw [slX_t]
  walk_at "hx"
  have h2 : (cutL xs (some ((n : Int) + 1)) none).length ≤ xs.length := cut_len _ _ _
  refine ⟨by rw [List.length_append]; simp only [List.length_cons, List.length_nil]; unfold lim; omega, rfl, ?_⟩
  rw [cut_to, show (n : Int) + 1 = ((n + 1 : Nat) : Int) from rfl, cut_from]
  rfl
theorem at_mem {xs : List PyData} {r : Int} (h0 : 0 ≤ r) (h1 : r < xs.length) : ∃ d, L2.atI xs r = some d ∧ d ∈ xs := by
  obtain ⟨n, rfl⟩ := Int.eq_ofNat_of_zero_le h0
  have : n < xs.length := by omega
  exact ⟨xs[n], by rw [at_nat, List.getElem?_eq_getElem this], List.getElem_mem this⟩
theorem pick_l {xs : List PyData} {r : Int} {P : PyData → Prop} (h0 : 0 ≤ r) (h1 : r < xs.length) (h : ∀ d ∈ xs, P d) : ixX (.list xs) (.int r) P := by
  obtain ⟨d, e, hd⟩ := at_mem h0 h1
  exact ⟨d, e, h d hd⟩
theorem put_odd {dp w n k : Nat} {xs : List PyData} {t : PyData} (h : ∀ x ∈ xs, Both dp w x) (ht : Odd dp w t) (hn : xs.length + 1 ≤ n) : Odd (dp + 1) (n * (w + 1)) (putR xs k t) :=
  odd_tup (fun x hx => h x (List.mem_of_mem_take hx)) ht (fun x hx => h x (List.mem_of_mem_drop hx)) (by
    rw [List.length_take, List.length_drop]
    omega)
end Hx

set_option Elab.async false
set_option linter.all false
set_option maxRecDepth 100000
set_option maxHeartbeats 4000000
/-! P14: bent sizes. -/
namespace Hx
open PySem
local macro_rules | `(tactic| walk_at "hx") => `(tactic| simp only [E_v, E_lit, E_con, E_edct, E_tup, E_lst, E_neg, E_bin, E_cmp, E_chain, E_isN, E_not, E_and, E_or, EAnd_nil, EAnd_cons, EOr_nil, EOr_cons, E_ite, E_call, E_callk, E_bi, E_mkt, E_mkl, E_isa, E_idx, E_sl, E_rev, E_ixof, E_dzip, E_dget, E_comp, E_comp2, E_dcomp2, E_pop, Es_nil, Es_cons, Et_val, Et_not, Et_and, Et_or, ECs_nil, ECs_cons, EDs_nil, EDs_cons, EO_non, EO_som, EI_seq, EI_rng, EI_zip, EI_enm,
  St_asg, St_unp, St_setix, St_aug, St_ex, St_app, St_ext, St_ret, St_if, St_for, St_pas, Ss_nil, Ss_cons, Lit.d, List.getElem?_cons_zero, List.getElem?_cons_succ, List.set_cons_zero, List.set_cons_succ, List.length_cons, List.length_nil, List.map_cons, List.map_nil, List.replicate_succ, List.replicate_zero, List.cons_append, List.nil_append, Option.some.injEq, exists_eq_left', exists_eq_left, PyData.int.injEq, PyData.list.injEq, PyData.tuple.injEq, PyData.bool.injEq, PyData.str.injEq,
  ifB_tt, ifB_ff, ifB_dec, ifB_not, op_add, op_sub, op_mul, op_mod, op_fdiv, op_pow, op_addt, op_addl, cm_lt, cm_le, cm_gt, cm_ge, cm_eq, cm_ne, b_bool, t_bool, bi_len_l, bi_len_t, bi_tuple_l, bi_tuple_t, bi_list_l, bi_list_t, bi_int_i, bi_int_b, bi_absI, ix_list, ix_tuple, at_0, at_1, at_2, at_3, Bool.not_true, Bool.not_false, Nat.reduceSub, Nat.reduceAdd, neg_i, int_i, items_l, items_t, items_ll, exists_const, exists_and_left, ix30, ix31, ix32, own_v, own_tup, wipe_nil, wipe_cons, bindT_v, bindT_tup, setAll_nil, setAll_cons, true_and, and_true])
theorem op_mul8 {P : PyData → Prop} : opX .mul (.tuple [.int 2]) (.int 8) P ↔ P (tI [2, 2, 2, 2, 2, 2, 2, 2]) := by
  have e : binD .mul (.tuple [.int 2]) (.int 8) = some (tI [2, 2, 2, 2, 2, 2, 2, 2]) := rfl
  unfold opX
  rw [e]
  simp
theorem both_str1 {c : Str} (h : (PyData.str c).leavesShort 13 = true) (hw : c.cps.size ≤ 4) : Both 0 4 (.str c) := fun b => ⟨rfl, Nat.zero_le _, h, hw, by cases b <;> rfl⟩
theorem end_odd {B dp w : Nat} {d d2 : PyData} {ρ : Env} (h : Odd dp w d) (hp : Pot B d2) : endP [0] (fun x o => Odd dp w x ∧ ∃ d', o = [d'] ∧ Pot B d') d (some d2 :: ρ) := by
  refine ⟨?_, h, d2, rfl, hp⟩
  obtain ⟨a, b, c, rfl, _⟩ := hp.ex
  rfl
theorem both_app {dp w : Nat} {xs ys : List PyData} (h : ∀ x ∈ xs, Both dp w x) (k : ∀ x ∈ ys, Both dp w x) : ∀ x ∈ xs ++ ys, Both dp w x := fun x hx => (List.mem_append.mp hx).elim (h x) (k x)
theorem both_1 {dp w : Nat} {x : PyData} (h : Both dp w x) : ∀ y ∈ [x], Both dp w y := fun y hy => by rw [List.mem_singleton.mp hy]; exact h
theorem both_2 {dp w : Nat} {x y : PyData} (h : Both dp w x) (k : Both dp w y) : ∀ z ∈ [x, y], Both dp w z := fun z hz => by
  rcases List.mem_cons.mp hz with e | hz
  · rw [e]; exact h
  · exact both_1 k z hz
theorem both_cut {dp w : Nat} {xs : List PyData} (h : ∀ x ∈ xs, Both dp w x) (a b : Option Int) : ∀ x ∈ cutL xs a b, Both dp w x := fun x hx => h x ((cut_sub xs a b).subset hx)
/-- sizes, one of them bent -/
def BentSizesS (m : Mng) : Prop := ∀ (B : Nat) (d : PyData) (l : List Int), Pot B d → B + 100 ≤ potLim → 1 ≤ l.length → l.length ≤ 8 → (∀ s ∈ l, -8 ≤ s ∧ s ≤ 15) → T (fun p => Odd 6 1000 p.1 ∧ ∃ d', p.2 = [d'] ∧ Pot (B + 2) d') (m [d, tI l])
theorem bent_sizes_s {Γ : List Callee} {c1 c2 : Nat} {m1 m2 : Mng} (g1 : Γ[c1]? = some ⟨[0], m1⟩) (h1 : TakeS m1) (g2 : Γ[c2]? = some ⟨[], m2⟩) (h2 : PutS m2) : BentSizesS ((F_law_bent_sizes c1 c2).mng Γ) := by
  intro B d l hp hB l1 l8 hl
  refine (mng_T (P := fun x o => Odd 6 1000 x ∧ ∃ d', o = [d'] ∧ Pot (B + 2) d') rfl).mpr ?_
  unfold F_law_bent_sizes tI
  walk_at "hx"
  refine call_take g1 h1 hp (by omega) (by rw [List.length_map]; omega) (by rw [List.length_map]; omega) rfl rfl fun r d1 r0 r1 hp1 => ?_
  rw [List.length_map] at r1
  obtain ⟨n, rfl⟩ := Int.eq_ofNat_of_zero_le r0
  walk_at "hx"
  have hb : ∀ x ∈ l.map PyData.int, Both 0 4 x := fun x hx => by
    obtain ⟨i, hi, rfl⟩ := List.mem_map.mp hx
    exact both_int (hl i hi)
  refine comp_M (fun x => putR (l.map PyData.int) n x) (fun x hx => ⟨_, rfl, ?_⟩) (by decide) ?_
  · walk_at "hx"
    refine call_0 g2 ((h2 _ n x (by rw [List.length_map]; omega)).mono fun p hp => ?_)
    exact ⟨hp, rfl⟩
  walk_at "hx"
  have c0 : (cutL (l.map PyData.int) none (some (n : Int))).length ≤ (l.map PyData.int).length := cut_len _ _ _
  have c1 : (cutL (l.map PyData.int) (some ((n : Int) + 1)) none).length ≤ (l.map PyData.int).length := cut_len _ _ _
  have hm : (l.map PyData.int).length = l.length := List.length_map _
  rw [slX_t, slX_t, op_addt]
  refine ⟨by unfold lim; omega, by unfold lim; omega, by unfold lim; omega, ?_⟩
  rw [op_mul8]
  unfold tI
  walk_at "hx"
  refine ⟨by unfold lim; omega, by unfold lim; omega, ?_⟩
  refine call_take g1 h1 hp1 (by omega) (by omega) (by omega) rfl rfl fun r d2 r20 r21 hp2 => ?_
  refine pick_l r20 r21 fun d hd => end_odd ?_ hp2
  have K : ∀ {t : PyData}, Odd 3 60 t → Odd 6 1000 (putR (l.map PyData.int) n t) := fun {t} ht => (put_odd (n := 9) (fun x hx => (hb x hx).mono (Nat.zero_le 3) (by decide : 4 ≤ 60)) ht (by omega)).mono (by decide) (by decide)
  have I : ∀ {i : Int}, -8 ≤ i ∧ i ≤ 15 → Odd 3 60 (.int i) := fun h => (both_int h).odd.mono (by decide) (by decide)
  have I' : ∀ {i : Int}, -8 ≤ i ∧ i ≤ 15 → Both 0 4 (.int i) := fun h => both_int h
  have U : ∀ {xs : List PyData}, (∀ x ∈ xs, Both 0 4 x) → xs.length ≤ 16 → Odd 6 1000 (.tuple xs) := fun h hn => (both_tup h hn).odd.mono (by decide) (by decide)
  revert d
  simp only [List.forall_mem_cons]
  refine ⟨K (I (by decide)), K (I (by decide)), K (I (by decide)), K (I (by decide)), K (both_bool.odd.mono (by decide) (by decide)), K (both_non.odd.mono (by decide) (by decide)), K ((both_str1 (by decide +kernel) (by decide +kernel)).odd.mono (by decide) (by decide)), K ((both_tup (n := 1) (both_1 (I' (by decide))) (by decide)).odd.mono (by decide) (by decide)), K ((odd_list (n := 1) (both_1 (I' (by decide))) (by decide)).mono (by decide) (by decide)), K (I (by decide)), K (I (by decide)), K (I (by decide)), U (both_app (both_cut hb _ _) (both_cut hb _ _)) (by rw [List.length_append]; omega), U (both_app hb (both_1 (I' (by decide)))) (by rw [List.length_append]; simp only [List.length_cons, List.length_nil]; omega), U (both_app hb (both_2 (I' (by decide)) (I' (by decide)))) (by rw [List.length_append]; simp only [List.length_cons, List.length_nil]; omega), (odd_list (n := 8) hb (by omega)).mono (by decide) (by decide), U (fun x hx => by cases hx) (by decide), U (both_app hb fun x hx => ?_) (by rw [List.length_append]; simp only [List.length_cons, List.length_nil]; omega), fun d hd => by cases hd⟩
  obtain ⟨i, hi, rfl⟩ := List.mem_map.mp (show x ∈ [2, 2, 2, 2, 2, 2, 2, 2].map PyData.int from hx)
  exact I' (by have : i = 2 := by simpa using hi
               omega)
end Hx

set_option Elab.async false
set_option linter.all false
set_option maxRecDepth 100000
set_option maxHeartbeats 4000000
/-! P15: bent contexts. -/
namespace Hx
open PySem
local macro_rules | `(tactic| walk_at "hx") => `(tactic| simp only [E_v, E_lit, E_con, E_edct, E_tup, E_lst, E_neg, E_bin, E_cmp, E_chain, E_isN, E_not, E_and, E_or, EAnd_nil, EAnd_cons, EOr_nil, EOr_cons, E_ite, E_call, E_callk, E_bi, E_mkt, E_mkl, E_isa, E_idx, E_sl, E_rev, E_ixof, E_dzip, E_dget, E_comp, E_comp2, E_dcomp2, E_pop, Es_nil, Es_cons, Et_val, Et_not, Et_and, Et_or, ECs_nil, ECs_cons, EDs_nil, EDs_cons, EO_non, EO_som, EI_seq, EI_rng, EI_zip, EI_enm,
  St_asg, St_unp, St_setix, St_aug, St_ex, St_app, St_ext, St_ret, St_if, St_for, St_pas, Ss_nil, Ss_cons, Lit.d, List.getElem?_cons_zero, List.getElem?_cons_succ, List.set_cons_zero, List.set_cons_succ, List.length_cons, List.length_nil, List.map_cons, List.map_nil, List.replicate_succ, List.replicate_zero, List.cons_append, List.nil_append, Option.some.injEq, exists_eq_left', exists_eq_left, PyData.int.injEq, PyData.list.injEq, PyData.tuple.injEq, PyData.bool.injEq, PyData.str.injEq,
  ifB_tt, ifB_ff, ifB_dec, ifB_not, op_add, op_sub, op_mul, op_mod, op_fdiv, op_pow, op_addt, op_addl, cm_lt, cm_le, cm_gt, cm_ge, cm_eq, cm_ne, b_bool, t_bool, bi_len_l, bi_len_t, bi_tuple_l, bi_tuple_t, bi_list_l, bi_list_t, bi_int_i, bi_int_b, bi_absI, ix_list, ix_tuple, at_0, at_1, at_2, at_3, Bool.not_true, Bool.not_false, Nat.reduceSub, Nat.reduceAdd, neg_i, int_i, items_l, items_t, items_ll, exists_const, exists_and_left, ix30, ix31, ix32, own_v, own_tup, wipe_nil, wipe_cons, bindT_v, bindT_tup, setAll_nil, setAll_cons, true_and, and_true])
theorem rev_t {xs : List PyData} : revD (.tuple xs) = some (.tuple xs.reverse) := rfl
theorem Ctxs.both {n width : Int} {cs : List (List Int)} (h : Ctxs n width cs) (hn : n ≤ 8) (hw : width ≤ 4) : ∀ x ∈ cs.map tI, Both 1 20 x := fun x hx => by
  obtain ⟨c, hc, rfl⟩ := List.mem_map.mp hx
  have := h.each c hc
  have hl := this.len
  exact (both_tI (l := c) fun q hq => by have := this.bet q hq; omega).mono (Nat.le_refl _) (by omega)
def BentContextsS (m : Mng) : Prop := ∀ (B : Nat) (d : PyData) (l : List Int) (cs : List (List Int)) (width : Int), Pot B d → B + 100 ≤ potLim → 1 ≤ l.length → l.length ≤ 8 → width ≤ 4 → 1 ≤ cs.length → cs.length ≤ 28 → Ctxs l.length width cs → T (fun p => Odd 10 20000 p.1 ∧ ∃ d', p.2 = [d'] ∧ Pot (B + 3) d') (m [d, tI l, .tuple (cs.map tI)])
theorem bent_contexts_s {Γ : List Callee} {c1 c2 : Nat} {m1 m2 : Mng} (g1 : Γ[c1]? = some ⟨[0], m1⟩) (h1 : TakeS m1) (g2 : Γ[c2]? = some ⟨[], m2⟩) (h2 : PutS m2) : BentContextsS ((F_law_bent_contexts c1 c2).mng Γ) := by
  intro B d l cs width hp hB l1 l8 hw cs1 cs28 hcs
  refine (mng_T (P := fun x o => Odd 10 20000 x ∧ ∃ d', o = [d'] ∧ Pot (B + 3) d') rfl).mpr ?_
  unfold F_law_bent_contexts
  have hb : ∀ x ∈ cs.map tI, Both 1 20 x := hcs.both (by omega) hw
  have hm : (cs.map tI).length = cs.length := List.length_map _
  have hat : ∀ n : Nat, n < cs.length → ∃ c, (cs.map tI)[n]? = some (tI c) ∧ CtxP l.length width c := fun n hn => ⟨cs[n], by rw [List.getElem?_map, List.getElem?_eq_getElem hn]; rfl, hcs.each _ (List.getElem_mem hn)⟩
  revert hb hm hat
  generalize cs.map tI = CS
  intro hb hm hat
  walk_at "hx"
  refine call_take g1 h1 hp (by omega) (by omega) (by omega) rfl rfl fun r d1 r0 r1 hp1 => ?_
  obtain ⟨n, rfl⟩ := Int.eq_ofNat_of_zero_le r0
  rw [hm] at r1
  have hn : n < cs.length := by omega
  walk_at "hx"
  obtain ⟨c, ec, hc⟩ := hat n hn
  refine ⟨tI c, by rw [at_nat]; exact ec, ?_⟩
  have cl := hc.len
  have cne : 1 ≤ c.length := by
    have := hc.ne
    cases c with
    | nil => exact absurd rfl this
    | cons x c => simp only [List.length_cons]; omega
  have cb : ∀ q ∈ c, -8 ≤ q ∧ q ≤ 15 := fun q hq => by have := hc.bet q hq; omega
  have cm : (c.map PyData.int).length = c.length := List.length_map _
  have lm : (l.map PyData.int).length = l.length := List.length_map _
  have cbo : ∀ x ∈ c.map PyData.int, Both 0 4 x := fun x hx => by
    obtain ⟨i, hi, rfl⟩ := List.mem_map.mp hx
    exact both_int (cb i hi)
  have c0 : ∀ a b, (cutL (c.map PyData.int) a b).length ≤ (c.map PyData.int).length := fun a b => cut_len _ _ _
  have s0 : ∀ a b, (cutL CS a b).length ≤ CS.length := fun a b => cut_len _ _ _
  unfold tI
  walk_at "hx"
  refine call_take g1 h1 hp1 (by omega) (by omega) (by omega) rfl rfl fun r d2 r20 r21 hp2 => ?_
  obtain ⟨k, rfl⟩ := Int.eq_ofNat_of_zero_le r20
  rw [cm] at r21
  walk_at "hx"
  rw [rev_t]
  refine ⟨_, rfl, ?_⟩
  rw [slX_t, op_addt]
  refine ⟨by have := c0 (some (-1)) none; unfold lim; omega, by unfold lim; omega, by unfold lim; omega, ?_⟩
  refine comp_M (fun x => putR (c.map PyData.int) k x) (fun x hx => ⟨_, rfl, ?_⟩) (by show (10 : Nat) ≤ lim; decide) ?_
  · walk_at "hx"
    refine call_0 g2 ((h2 _ k x (by omega)).mono fun p hp => ?_)
    exact ⟨hp, rfl⟩
  walk_at "hx"
  refine ⟨by decide, ?_⟩
  rw [slX_t, slX_t, op_addt]
  refine ⟨by have := c0 none (some (k : Int)); have := c0 (some ((k : Int) + 1)) none; unfold lim; omega, by decide, ?_⟩
  refine comp_M (fun q => .tuple [q, .int 1]) (fun x hx => ⟨_, rfl, by walk_at "hx"⟩) (by unfold lim; omega) ?_
  refine bi_dict_ones cb fun dd hdd => ?_
  walk_at "hx"
  refine ⟨by decide, ?_⟩
  have H : ∀ {t : PyData}, Odd 3 60 t → Odd 4 610 (putR (c.map PyData.int) k t) := fun {t} ht => (put_odd (n := 9) (fun x hx => (cbo x hx).mono (Nat.zero_le 3) (by decide : 4 ≤ 60)) ht (by omega)).mono (by decide) (by decide)
  have I : ∀ {i : Int}, -8 ≤ i ∧ i ≤ 15 → Odd 3 60 (.int i) := fun h => (both_int h).odd.mono (by decide) (by decide)
  have I' : ∀ {i : Int}, -8 ≤ i ∧ i ≤ 15 → Both 0 4 (.int i) := fun h => both_int h
  have U : ∀ {xs : List PyData}, (∀ x ∈ xs, Both 0 4 x) → xs.length ≤ 16 → Odd 4 610 (.tuple xs) := fun h hn => (both_tup h hn).odd.mono (by decide) (by decide)
  have A : ∀ x ∈ [PyData.tuple [], PyData.list (c.map PyData.int), PyData.tuple (c.map PyData.int).reverse,
      PyData.tuple (c.map PyData.int ++ cutL (c.map PyData.int) (some (-1)) none),
      PyData.tuple (c.map PyData.int ++ [PyData.int ((l.map PyData.int).length : Nat)]),
      PyData.tuple (PyData.int (-1) :: c.map PyData.int), PyData.none,
      putR (c.map PyData.int) k (.bool true), putR (c.map PyData.int) k (.bool false), putR (c.map PyData.int) k .none,
      putR (c.map PyData.int) k (.str (Str.ofString "0")), putR (c.map PyData.int) k (.tuple [.int 0]),
      putR (c.map PyData.int) k (.int ((l.map PyData.int).length : Nat)), putR (c.map PyData.int) k (.int 1), putR (c.map PyData.int) k (.int 0),
      putR (c.map PyData.int) k (.list [.int 1]), putR (c.map PyData.int) k (.dict []),
      .tuple (cutL (c.map PyData.int) none (some (k : Int)) ++ cutL (c.map PyData.int) (some ((k : Int) + 1)) none), .str (Str.ofString "01"), .int 0, dd], Odd 4 610 x := by
    simp only [List.forall_mem_cons]
    have hl : -8 ≤ (((l.map PyData.int).length : Nat) : Int) ∧ (((l.map PyData.int).length : Nat) : Int) ≤ 15 := by omega
    refine ⟨U (fun x hx => by cases hx) (by decide), (odd_list (n := 8) cbo (by omega)).mono (by decide) (by decide), U (fun x hx => cbo x (List.mem_reverse.mp hx)) (by rw [List.length_reverse]; omega),
      U (both_app cbo (both_cut cbo _ _)) (by have := c0 (some (-1)) none; rw [List.length_append]; omega), U (both_app cbo (both_1 (I' hl))) (by rw [List.length_append]; simp only [List.length_cons, List.length_nil]; omega),
      U (both_app (both_1 (I' (by decide))) cbo) (by simp only [List.length_append, List.length_cons, List.length_nil]; omega), both_non.odd.mono (by decide) (by decide),
      H (both_bool.odd.mono (by decide) (by decide)), H (both_bool.odd.mono (by decide) (by decide)), H (both_non.odd.mono (by decide) (by decide)), H ((both_str1 (by decide +kernel) (by decide +kernel)).odd.mono (by decide) (by decide)),
      H ((both_tup (n := 1) (both_1 (I' (by decide))) (by decide)).odd.mono (by decide) (by decide)), H (I hl), H (I (by decide)), H (I (by decide)), H ((odd_list (n := 1) (both_1 (I' (by decide))) (by decide)).mono (by decide) (by decide)),
      H ⟨false, (fine_kv (fun p hp => by cases hp)).mono (by decide) (by decide)⟩, U (both_app (both_cut cbo _ _) (both_cut cbo _ _)) (by have := c0 none (some (k : Int)); have := c0 (some ((k : Int) + 1)) none; rw [List.length_append]; omega),
      (both_str1 (by decide +kernel) (by decide +kernel)).odd.mono (by decide) (by decide), (I (by decide)).mono (by decide) (by decide), hdd.mono (by decide) (by omega), fun d hd => by cases hd⟩
  refine comp_M (fun x => putR CS n x) (fun x hx => ⟨_, rfl, ?_⟩) (by show (21 : Nat) ≤ lim; decide) ?_
  · walk_at "hx"
    refine call_0 g2 ((h2 _ n x (by omega)).mono fun p hp => ?_)
    exact ⟨hp, rfl⟩
  have V : ∀ {xs : List PyData}, (∀ x ∈ xs, Both 1 20 x) → xs.length ≤ 90 → Odd 10 20000 (.tuple xs) := fun h hn => (both_tup h hn).odd.mono (by decide) (by decide)
  have W : ∀ x, Odd 4 610 x → Odd 10 20000 (putR CS n x) := fun x hx => (put_odd (n := 29) (fun y hy => (hb y hy).mono (by decide) (by decide : 20 ≤ 610)) hx (by omega)).mono (by decide) (by decide)
  have A2 := fun x hx => W x (A x hx)
  revert A2
  generalize hG : ([PyData.tuple [], PyData.list (c.map PyData.int), PyData.tuple (c.map PyData.int).reverse,
      PyData.tuple (c.map PyData.int ++ cutL (c.map PyData.int) (some (-1)) none),
      PyData.tuple (c.map PyData.int ++ [PyData.int ((l.map PyData.int).length : Nat)]),
      PyData.tuple (PyData.int (-1) :: c.map PyData.int), PyData.none,
      putR (c.map PyData.int) k (.bool true), putR (c.map PyData.int) k (.bool false), putR (c.map PyData.int) k .none,
      putR (c.map PyData.int) k (.str (Str.ofString "0")), putR (c.map PyData.int) k (.tuple [.int 0]),
      putR (c.map PyData.int) k (.int ((l.map PyData.int).length : Nat)), putR (c.map PyData.int) k (.int 1), putR (c.map PyData.int) k (.int 0),
      putR (c.map PyData.int) k (.list [.int 1]), putR (c.map PyData.int) k (.dict []),
      .tuple (cutL (c.map PyData.int) none (some (k : Int)) ++ cutL (c.map PyData.int) (some ((k : Int) + 1)) none), .str (Str.ofString "01"), .int 0, dd]) = G
  intro A2
  have hG1 : G.length = 21 := by rw [← hG]; rfl
  clear hG A
  have M : ∀ d ∈ G.map fun x => putR CS n x, Odd 10 20000 d := fun d hd => by
    obtain ⟨x, hx, rfl⟩ := List.mem_map.mp hd
    exact A2 x hx
  have hM1 : (G.map fun x => putR CS n x).length = 21 := by rw [List.length_map, hG1]
  walk_at "hx"
  revert M hM1
  generalize (G.map fun x => putR CS n x) = G2
  intro M hM1
  rw [slX_t, slX_t, op_addt]
  have z1 := s0 none (some (n : Int))
  have z2 := s0 (some ((n : Int) + 1)) none
  have z3 := s0 (some (-1)) none
  have z4 := s0 (some (n : Int)) (some ((n : Int) + 1))
  have z5 := s0 (some (n : Int)) none
  refine ⟨by unfold lim; omega, ?_⟩
  rw [rev_t]
  refine ⟨_, rfl, ?_⟩
  rw [slX_t, op_addt]
  refine ⟨by unfold lim; omega, by unfold lim; omega, ?_⟩
  rw [slX_t, slX_t, op_addt]
  refine ⟨by unfold lim; omega, ?_⟩
  rw [slX_t, op_addt]
  refine ⟨by rw [List.length_append]; unfold lim; omega, by rw [List.length_append]; simp only [List.length_cons, List.length_nil]; unfold lim; omega, ?_⟩
  have LL : ∀ d e f g h i j : PyData, (G2 ++ [d, e, f, g, h, i] ++ [j]).length = 28 := fun d e f g h i j => by
    simp only [List.length_append, List.length_cons, List.length_nil, hM1]
  refine call_take g1 h1 hp2 (by omega) (by rw [LL]; decide) (by rw [LL]; decide) rfl rfl fun r d3 r30 r31 hp3 => ?_
  refine pick_l r30 r31 fun d hd => end_odd ?_ hp3
  rcases List.mem_append.mp hd with hd | hd
  · rcases List.mem_append.mp hd with hd | hd
    · exact M d hd
    · simp only [List.mem_cons, List.not_mem_nil, or_false] at hd
      rcases hd with rfl | rfl | rfl | rfl | rfl | rfl
      · exact V (both_app (both_cut hb _ _) (both_cut hb _ _)) (by rw [List.length_append]; omega)
      · exact V (fun x hx => hb x (List.mem_reverse.mp hx)) (by rw [List.length_reverse]; omega)
      · exact V (both_app hb (both_cut hb _ _)) (by rw [List.length_append]; omega)
      · exact (odd_list (n := 28) hb (by omega)).mono (by decide) (by decide)
      · exact V (fun x hx => by cases hx) (by decide)
      · exact both_non.odd.mono (by decide) (by decide)
  · rw [List.mem_singleton.mp hd]
    exact V (both_app (both_app (both_cut hb _ _) (both_cut hb _ _)) (both_cut hb _ _)) (by rw [List.length_append, List.length_append]; omega)
end Hx

set_option Elab.async false
set_option linter.all false
set_option maxRecDepth 100000
set_option maxHeartbeats 4000000
/-! P16: bent scenarios. -/
namespace Hx
open PySem
local macro_rules | `(tactic| walk_at "hx") => `(tactic| simp only [E_v, E_lit, E_con, E_edct, E_tup, E_lst, E_neg, E_bin, E_cmp, E_chain, E_isN, E_not, E_and, E_or, EAnd_nil, EAnd_cons, EOr_nil, EOr_cons, E_ite, E_call, E_callk, E_bi, E_mkt, E_mkl, E_isa, E_idx, E_sl, E_rev, E_ixof, E_dzip, E_dget, E_comp, E_comp2, E_dcomp2, E_pop, Es_nil, Es_cons, Et_val, Et_not, Et_and, Et_or, ECs_nil, ECs_cons, EDs_nil, EDs_cons, EO_non, EO_som, EI_seq, EI_rng, EI_zip, EI_enm,
  St_asg, St_unp, St_setix, St_aug, St_ex, St_app, St_ext, St_ret, St_if, St_for, St_pas, Ss_nil, Ss_cons, Lit.d, List.getElem?_cons_zero, List.getElem?_cons_succ, List.set_cons_zero, List.set_cons_succ, List.length_cons, List.length_nil, List.map_cons, List.map_nil, List.replicate_succ, List.replicate_zero, List.cons_append, List.nil_append, Option.some.injEq, exists_eq_left', exists_eq_left, PyData.int.injEq, PyData.list.injEq, PyData.tuple.injEq, PyData.bool.injEq, PyData.str.injEq,
  ifB_tt, ifB_ff, ifB_dec, ifB_not, op_add, op_sub, op_mul, op_mod, op_fdiv, op_pow, op_addt, op_addl, cm_lt, cm_le, cm_gt, cm_ge, cm_eq, cm_ne, b_bool, t_bool, bi_len_l, bi_len_t, bi_tuple_l, bi_tuple_t, bi_list_l, bi_list_t, bi_int_i, bi_int_b, bi_absI, ix_list, ix_tuple, at_0, at_1, at_2, at_3, Bool.not_true, Bool.not_false, Nat.reduceSub, Nat.reduceAdd, neg_i, int_i, items_l, items_t, items_ll, exists_const, exists_and_left, ix30, ix31, ix32, own_v, own_tup, wipe_nil, wipe_cons, bindT_v, bindT_tup, setAll_nil, setAll_cons, true_and, and_true])
def BentS (m : Mng) : Prop := ∀ (B : Nat) (d : PyData) (l : List Int) (cs : List (List Int)) (width : Int), Pot B d → B + 200 ≤ potLim → 1 ≤ l.length → l.length ≤ 8 → (∀ s ∈ l, -8 ≤ s ∧ s ≤ 15) → width ≤ 4 → 1 ≤ cs.length → cs.length ≤ 28 → Ctxs l.length width cs → T (fun p => Odd 12 50000 p.1 ∧ ∃ d', p.2 = [d'] ∧ Pot (B + 4) d') (m [d, dS l cs])
theorem bent_s {Γ : List Callee} {c1 c2 c3 : Nat} {m1 m2 m3 : Mng} (g1 : Γ[c1]? = some ⟨[0], m1⟩) (h1 : TakeS m1) (g2 : Γ[c2]? = some ⟨[0], m2⟩) (h2 : BentSizesS m2) (g3 : Γ[c3]? = some ⟨[0], m3⟩) (h3 : BentContextsS m3) : BentS ((F_law_bent c1 c2 c3).mng Γ) := by
  intro B d l cs width hp hB l1 l8 hl hw cs1 cs28 hcs
  refine (mng_T (P := fun x o => Odd 12 50000 x ∧ ∃ d', o = [d'] ∧ Pot (B + 4) d') rfl).mpr ?_
  unfold F_law_bent dS
  have hs : Both 4 610 (tI l) := (both_tI hl).mono (by decide) (by omega)
  have hb : Both 4 610 (.tuple (cs.map tI)) := (both_tup (n := 28) (hcs.both (by omega) hw) (by rw [List.length_map]; exact cs28)).mono (by decide) (by decide)
  walk_at "hx"
  refine call_take g1 h1 hp (by omega) (by omega) (by omega) rfl rfl fun r d1 r0 r1 hp1 => ?_
  walk_at "hx"
  refine ⟨fun hr => ?_, fun hr => ?_⟩
  · refine call_1 g2 rfl rfl ((h2 _ d1 l hp1 (by omega) l1 l8 hl).mono fun p hp2 => ?_)
    obtain ⟨ho, d2, e2, hp2⟩ := hp2
    refine ⟨d2, e2, ?_⟩
    walk_at "hx"
    have := odd_tup (n := 2) (w := 20000) (dp := 6) (xs := []) (ys := [.tuple (cs.map tI)]) (fun x hx => by cases hx) (ho.mono (by decide) (by decide)) (both_1 (hb.mono (by decide) (by decide))) (Nat.le_of_ble_eq_true rfl)
    exact end_odd (this.mono (by decide) (by decide)) (hp2.mono (by omega))
  refine ⟨fun hr2 => ?_, fun hr2 => ?_⟩
  · refine call_1 g3 rfl rfl ((h3 _ d1 l cs width hp1 (by omega) l1 l8 hw cs1 cs28 hcs).mono fun p hp2 => ?_)
    obtain ⟨ho, d2, e2, hp2⟩ := hp2
    refine ⟨d2, e2, ?_⟩
    walk_at "hx"
    have := odd_tup (n := 2) (w := 20000) (dp := 10) (xs := [tI l]) (ys := []) (both_1 (hs.mono (by decide) (by decide))) (ho.mono (by decide) (by decide)) (fun x hx => by cases hx) (Nat.le_of_ble_eq_true rfl)
    exact end_odd (this.mono (by decide) (by decide)) (hp2.mono (by omega))
  · refine ⟨by decide, ?_⟩
    refine call_take g1 h1 hp1 (by omega) (by decide) (by decide) rfl rfl fun r d2 r20 r21 hp2 => ?_
    refine pick_l r20 r21 fun d hd => end_odd ?_ (hp2.mono (by omega))
    have U : ∀ {xs : List PyData}, (∀ x ∈ xs, Both 4 610 x) → xs.length ≤ 4 → Odd 12 50000 (.tuple xs) := fun h hn => (both_tup h hn).odd.mono (by decide) (by decide)
    revert d
    simp only [List.forall_mem_cons]
    refine ⟨(odd_list (n := 2) (both_2 hs hb) (Nat.le_of_ble_eq_true rfl)).mono (by decide) (by decide), U (both_app (both_2 hs hb) (both_1 ((both_int (by decide)).mono (by decide) (by decide)))) (Nat.le_of_ble_eq_true rfl), U (both_1 hs) (Nat.le_of_ble_eq_true rfl), both_non.odd.mono (by decide) (by decide), (both_int (by decide)).odd.mono (by decide) (by decide),
      (both_str1 (by decide +kernel) (by decide +kernel)).odd.mono (by decide) (by decide), ⟨false, (fine_kv (fun p hp => by cases hp)).mono (by decide) (by decide)⟩, hb.odd.mono (by decide) (by decide), U (both_2 hb hs) (Nat.le_of_ble_eq_true rfl), U (fun x hx => by cases hx) (by decide), U (both_2 hs hb) (Nat.le_of_ble_eq_true rfl), fun d hd => by cases hd⟩
end Hx

set_option Elab.async false
set_option linter.all false
set_option maxRecDepth 100000
set_option maxHeartbeats 4000000
/-! P17: singles and pairs. -/
namespace Hx
open PySem
local macro_rules | `(tactic| walk_at "hx") => `(tactic| simp only [E_v, E_lit, E_con, E_edct, E_tup, E_lst, E_neg, E_bin, E_cmp, E_chain, E_isN, E_not, E_and, E_or, EAnd_nil, EAnd_cons, EOr_nil, EOr_cons, E_ite, E_call, E_callk, E_bi, E_mkt, E_mkl, E_isa, E_idx, E_sl, E_rev, E_ixof, E_dzip, E_dget, E_comp, E_comp2, E_dcomp2, E_pop, Es_nil, Es_cons, Et_val, Et_not, Et_and, Et_or, ECs_nil, ECs_cons, EDs_nil, EDs_cons, EO_non, EO_som, EI_seq, EI_rng, EI_zip, EI_enm,
  St_asg, St_unp, St_setix, St_aug, St_ex, St_app, St_ext, St_ret, St_if, St_for, St_pas, Ss_nil, Ss_cons, Lit.d, List.getElem?_cons_zero, List.getElem?_cons_succ, List.set_cons_zero, List.set_cons_succ, List.length_cons, List.length_nil, List.map_cons, List.map_nil, List.replicate_succ, List.replicate_zero, List.cons_append, List.nil_append, Option.some.injEq, exists_eq_left', exists_eq_left, PyData.int.injEq, PyData.list.injEq, PyData.tuple.injEq, PyData.bool.injEq, PyData.str.injEq,
  ifB_tt, ifB_ff, ifB_dec, ifB_not, op_add, op_sub, op_mul, op_mod, op_fdiv, op_pow, op_addt, op_addl, cm_lt, cm_le, cm_gt, cm_ge, cm_eq, cm_ne, b_bool, t_bool, bi_len_l, bi_len_t, bi_tuple_l, bi_tuple_t, bi_list_l, bi_list_t, bi_int_i, bi_int_b, bi_absI, ix_list, ix_tuple, at_0, at_1, at_2, at_3, Bool.not_true, Bool.not_false, Nat.reduceSub, Nat.reduceAdd, neg_i, int_i, items_l, items_t, items_ll, exists_const, exists_and_left, ix30, ix31, ix32, own_v, own_tup, wipe_nil, wipe_cons, bindT_v, bindT_tup, setAll_nil, setAll_cons, true_and, and_true])
def pairsTo (i : Nat) : List (List Int) := (List.range i).flatMap fun a => (List.range (7 - a)).map fun j : Nat => [(a : Int), (a : Int) + 1 + (j : Int)]
def pairsL (m : Nat) : List (List Int) := ((List.range 8).map fun i : Nat => [(i : Int)]) ++ (pairsTo 8).take m
theorem pairs_sub (m : Nat) : (pairsL m).Sublist (pairsL 28) := by
  have e : (pairsTo 8).take 28 = pairsTo 8 := by decide +kernel
  unfold pairsL
  rw [e]
  exact (List.Sublist.refl _).append (List.take_sublist _ _)
theorem pairs_nd (m : Nat) : (pairsL m).Nodup := by
  have : (pairsL 28).Nodup := by decide +kernel
  exact this.sublist (pairs_sub m)
theorem pairs_each (m : Nat) : ∀ c ∈ pairsL m, CtxP 8 2 c := by
  have h : (pairsL 28).all (fun c => (c != []) && decide (c.length ≤ 2) && c.all (fun q => decide (0 ≤ q) && decide (q < 8)) && asc (c.map .int)) = true := by decide +kernel
  intro c hc
  have := List.all_eq_true.mp h c ((pairs_sub m).subset hc)
  simp only [Bool.and_eq_true, decide_eq_true_eq, List.all_eq_true, bne_iff_ne] at this
  obtain ⟨⟨⟨h1, h2⟩, h3⟩, h4⟩ := this
  exact ⟨h1, by omega, h3, h4⟩
theorem pairsTo_succ (i : Nat) : pairsTo (i + 1) = pairsTo i ++ (List.range (7 - i)).map fun j : Nat => [(i : Int), (i : Int) + 1 + (j : Int)] := by
  unfold pairsTo
  rw [List.range_succ, List.flatMap_append]
  simp
def PairsS (m : Mng) : Prop := ∀ n : Nat, n ≤ 100 → T (fun p => ∃ ds : List (List Int), p.1 = .tuple (ds.map tI) ∧ ds.Perm (pairsL n) ∧ asc (ds.map tI) = true) (m [.int n])
theorem slX_l {xs : List PyData} {l h : Option Int} {P : PyData → Prop} : slX (.list xs) l h P ↔ P (.list (cutL xs l h)) := by simp [slX, sliceD]
theorem rng_2 {a b : Int} (ha : -1000000 ≤ a ∧ a ≤ 1000000) (hb : -1000000 ≤ b ∧ b ≤ 1000000) : rngD [.int a, .int b] = some ((List.range (b - a).toNat).map fun i : Nat => .int (a + (i : Int))) := by
  show (if -1000000 ≤ a ∧ a ≤ 1000000 ∧ -1000000 ≤ b ∧ b ≤ 1000000 then some ((List.range (b - a).toNat).map fun i : Nat => PyData.int (a + (i : Int))) else none) = _
  rw [if_pos ⟨ha.1, ha.2, hb.1, hb.2⟩]
theorem pairs_s {Γ : List Callee} : PairsS (F_law_pairs.mng Γ) := by
  intro n hn
  refine (mng_T (P := fun x _ => ∃ ds : List (List Int), x = .tuple (ds.map tI) ∧ ds.Perm (pairsL n) ∧ asc (ds.map tI) = true) rfl).mpr ?_
  unfold F_law_pairs
  walk_at "hx"
  rw [rng_i (by decide) (by decide)]
  refine ⟨_, rfl, ?_⟩
  refine loop_T (I := fun i ρ => ∃ o2, ρ = [some (.int n), some (.list ((pairsTo i).map tI)), o2, none] ∧ i ≤ 8) ?_ ?_ ?_
  · exact ⟨none, rfl, Nat.zero_le _⟩
  · rintro i x ρ hx ⟨o2, rfl, hi8⟩
    obtain ⟨hi, rfl⟩ := rng_get hx
    have hi : i < 8 := hi
    refine ⟨_, rfl, ?_⟩
    walk_at "hx"
    rw [rng_2 (by omega) (by omega)]
    refine ⟨_, rfl, ?_⟩
    refine comp_M (fun x => .tuple [.int (i : Int), x]) (fun x hx => ⟨_, rfl, by walk_at "hx"⟩) (by rw [List.length_map, List.length_range]; unfold lim; omega) ?_
    walk_at "hx"
    have e : (List.map (fun x => PyData.tuple [.int (i : Int), x]) (List.map (fun j : Nat => PyData.int ((i : Int) + 1 + (j : Int))) (List.range (8 - ((i : Int) + 1)).toNat))) = ((List.range (7 - i)).map fun j : Nat => [(i : Int), (i : Int) + 1 + (j : Int)]).map tI := by
      rw [List.map_map, List.map_map, show (8 - ((i : Int) + 1)).toNat = 7 - i by omega]
      rfl
    rw [e]
    have hl : (pairsTo i).length ≤ 28 := by
      have : ∀ i : Fin 9, (pairsTo i.val).length ≤ 28 := by decide +kernel
      exact this ⟨i, by omega⟩
    refine ⟨by simp only [List.length_map, List.length_range]; unfold lim; omega, some (.int (i : Int)), ?_, by omega⟩
    rw [pairsTo_succ, List.map_append]
  · rintro ρ ⟨o2, rfl, _⟩
    rw [List.length_map, List.length_range]
    walk_at "hx"
    refine comp_M (fun x => .tuple [x]) (fun x hx => ⟨_, rfl, by walk_at "hx"⟩) (by decide) ?_
    walk_at "hx"
    rw [slX_l, cut_to]
    have e1 : (List.map (fun x => PyData.tuple [x]) (List.map (fun i : Nat => PyData.int (i : Int)) (List.range (8 : Int).toNat))) = ((List.range 8).map fun i : Nat => [(i : Int)]).map tI := rfl
    rw [e1, ← List.map_take, op_addl, ← List.map_append]
    have hl : (pairsL n).length ≤ 36 := (pairs_sub n).length_le
    refine ⟨by simp only [List.length_map, List.length_range, List.length_take]; unfold lim; omega, ?_⟩
    show biX .sorted [.list ((pairsL n).map tI)] _
    rw [bi_sorted_tuples (by unfold lim; omega) fun c hc => (pairs_each n c hc).ne]
    obtain ⟨ds, es, pm⟩ := sort_tuples (pairsL n)
    have ha := sort_asc (ord_tuples (pairsL n)) (nodup_map (fun a b h => tI_inj h) (pairs_nd n))
    rw [es] at ha
    rw [es]
    walk_at "hx"
    exact ⟨rfl, ds, rfl, pm, ha⟩
/-! ### what a scenario is, on known shapes -/
theorem isScen_of {l : List Int} {cs : List (List Int)} {w : Int} (sz : isSizes (tI l) = true) (ctx : Ctxs l.length w cs) (ha : asc (cs.map tI) = true) (cov : ∀ i : Nat, i < l.length → ∃ c ∈ cs, (i : Int) ∈ c) (h1 : 1 ≤ cs.length) (h2 : cs.length ≤ 28) : isScen (dS l cs) = true := by
  show (isSizes (tI l) && (decide (1 ≤ (cs.map tI).length ∧ (cs.map tI).length ≤ 28) && (cs.map tI).all (isCtx (l.map PyData.int).length) && Hx.asc (cs.map tI) && decide ((putsD [] ((allQs (cs.map tI)).map fun q => (PyData.int q, PyData.bool true))).length = (l.map PyData.int).length))) = true
  have hq : ∀ q ∈ allQs (cs.map tI), 0 ≤ q ∧ q < (l.length : Int) := fun q hq => by
    have h1 : (allQs (cs.map tI)).contains q = true := by simpa using hq
    rw [allQs_tI, List.any_eq_true] at h1
    obtain ⟨c, hc, hcq⟩ := h1
    exact (ctx.each c hc).bet q (by simpa using hcq)
  rw [sz, ha, List.length_map, List.length_map, decide_eq_true (by omega), covered_iff hq]
  have e1 : (cs.map tI).all (isCtx (l.length : Int)) = true := List.all_eq_true.mpr fun x hx => by
    obtain ⟨c, hc, rfl⟩ := List.mem_map.mp hx
    exact isCtx_tI (ctx.each c hc)
  have e2 : ((List.range l.length).all fun i => (allQs (cs.map tI)).contains (i : Int)) = true := List.all_eq_true.mpr fun i hi => by
    rw [allQs_tI, List.any_eq_true]
    obtain ⟨c, hc, hi'⟩ := cov i (List.mem_range.mp hi)
    exact ⟨c, hc, by simpa using hi'⟩
  rw [e1, e2]
  rfl
theorem isScen_29 {l : List Int} {cs : List (List Int)} (h : 28 < cs.length) : isScen (dS l cs) = false := by
  show (isSizes (tI l) && (decide (1 ≤ (cs.map tI).length ∧ (cs.map tI).length ≤ 28) && (cs.map tI).all (isCtx (l.map PyData.int).length) && Hx.asc (cs.map tI) && decide ((putsD [] ((allQs (cs.map tI)).map fun q => (PyData.int q, PyData.bool true))).length = (l.map PyData.int).length))) = false
  rw [List.length_map, decide_eq_false (by omega)]
  simp
def twos : List Int := [2, 2, 2, 2, 2, 2, 2, 2]
theorem pairs_scen {n : Nat} {ds : List (List Int)} (pm : ds.Perm (pairsL n)) (ha : asc (ds.map tI) = true) (hn : n ≤ 20) : isScen (dS twos ds) = true := by
  have hlen : (pairsL n).length ≤ 28 := by
    unfold pairsL
    rw [List.length_append, List.length_take, List.length_map, List.length_range]
    omega
  have hl := pm.length_eq
  have hin : ∀ i : Nat, i < 8 → [(i : Int)] ∈ pairsL n := fun i hi => List.mem_append_left _ (List.mem_map.mpr ⟨i, List.mem_range.mpr hi, rfl⟩)
  have h0 := List.length_pos_of_mem (hin 0 (by decide))
  refine isScen_of (w := 2) (by decide +kernel) ⟨pm.nodup_iff.mpr (pairs_nd n), fun c hc => pairs_each n c (pm.mem_iff.mp hc)⟩ ha (fun i hi => ⟨_, pm.mem_iff.mpr (hin i hi), by simp⟩) (by omega) (by omega)
theorem pairs_not {ds : List (List Int)} (pm : ds.Perm (pairsL 21)) : isScen (dS twos ds) = false := by
  have : (pairsL 21).length = 29 := by decide +kernel
  have := pm.length_eq
  exact isScen_29 (by omega)
end Hx

set_option Elab.async false
set_option linter.all false
set_option maxRecDepth 100000
set_option maxHeartbeats 4000000
/-! P18: the law itself. -/
namespace Hx
open PySem
local macro_rules | `(tactic| walk_at "hx") => `(tactic| simp only [E_v, E_lit, E_con, E_edct, E_tup, E_lst, E_neg, E_bin, E_cmp, E_chain, E_isN, E_not, E_and, E_or, EAnd_nil, EAnd_cons, EOr_nil, EOr_cons, E_ite, E_call, E_callk, E_bi, E_mkt, E_mkl, E_isa, E_idx, E_sl, E_rev, E_ixof, E_dzip, E_dget, E_comp, E_comp2, E_dcomp2, E_pop, Es_nil, Es_cons, Et_val, Et_not, Et_and, Et_or, ECs_nil, ECs_cons, EDs_nil, EDs_cons, EO_non, EO_som, EI_seq, EI_rng, EI_zip, EI_enm,
  St_asg, St_unp, St_setix, St_aug, St_ex, St_app, St_ext, St_ret, St_if, St_for, St_pas, Ss_nil, Ss_cons, Lit.d, List.getElem?_cons_zero, List.getElem?_cons_succ, List.set_cons_zero, List.set_cons_succ, List.length_cons, List.length_nil, List.map_cons, List.map_nil, List.replicate_succ, List.replicate_zero, List.cons_append, List.nil_append, Option.some.injEq, exists_eq_left', exists_eq_left, PyData.int.injEq, PyData.list.injEq, PyData.tuple.injEq, PyData.bool.injEq, PyData.str.injEq,
  ifB_tt, ifB_ff, ifB_dec, ifB_not, op_add, op_sub, op_mul, op_mod, op_fdiv, op_pow, op_addt, op_addl, cm_lt, cm_le, cm_gt, cm_ge, cm_eq, cm_ne, b_bool, t_bool, bi_len_l, bi_len_t, bi_tuple_l, bi_tuple_t, bi_list_l, bi_list_t, bi_int_i, bi_int_b, bi_absI, ix_list, ix_tuple, at_0, at_1, at_2, at_3, Bool.not_true, Bool.not_false, Nat.reduceSub, Nat.reduceAdd, neg_i, int_i, items_l, items_t, items_ll, exists_const, exists_and_left, ix30, ix31, ix32, own_v, own_tup, wipe_nil, wipe_cons, bindT_v, bindT_tup, setAll_nil, setAll_cons, true_and, and_true])
theorem k_min2 {a b : Int} {P : PyData → Prop} : biX .min2 [.int a, .int b] P ↔ P (.int (if b < a then b else a)) := by simp [biX, biD]
theorem k_max2 {a b : Int} {P : PyData → Prop} : biX .max2 [.int a, .int b] P ↔ P (.int (if b > a then b else a)) := by simp [biX, biD]
theorem repr_bool {k : Bool} {P : PyData → Prop} : biX .repr [.bool k] P ↔ P (.str (PyData.shown (.bool k))) := ((fine_bool (b := true)).mono (Nat.zero_le 60) (Nat.le_refl 0)).repr (Nat.zero_le _)
theorem Odd.repr {dp w : Nat} {d : PyData} {P : PyData → Prop} (h : Odd dp w d) (hd : dp ≤ 60) (hw : w ≤ 60000) : biX .repr [d] P ↔ P (.str d.shown) := by
  obtain ⟨b, h⟩ := h
  exact (h.mono hd (Nat.le_refl _)).repr hw
theorem Odd.short {dp w : Nat} {d : PyData} (h : Odd dp w d) (hw : w ≤ lim) : shortD d := by
  obtain ⟨b, h⟩ := h
  exact h.short hw
theorem both_dS {n width : Int} {l : List Int} {cs : List (List Int)} (hl : ∀ s ∈ l, -8 ≤ s ∧ s ≤ 15) (l8 : l.length ≤ 8) (hcs : Ctxs n width cs) (hn : n ≤ 8) (hw : width ≤ 4) (h : cs.length ≤ 40) : Both 12 50000 (dS l cs) :=
  (both_tup (n := 2) (both_2 ((both_tI hl).mono (by decide : 1 ≤ 4) (by omega : l.length * 5 ≤ 1000)) ((both_tup (n := 40) (hcs.both hn hw) (by rw [List.length_map]; exact h)).mono (by decide) (by decide))) (Nat.le_of_ble_eq_true rfl)).mono (by decide) (by decide)
def PotS (m : Mng) : Prop := ∀ (ns : List Int) (k : Nat), k ≤ 1000000 → T (fun p => Pot 0 p.1) (m [.list (ns.map .int), .int k])
theorem pot_s {Γ : List Callee} : PotS (F_law_pot.mng Γ) := fun ns k hk => pot_ok hk
theorem law_k01 {Γ : List Callee} {c1 c2 c3 c4 c5 c6 : Nat} {m1 m2 m3 m4 m5 m6 : Mng} (g1 : Γ[c1]? = some ⟨[], m1⟩) (h1 : ScenS m1) (g2 : Γ[c2]? = some ⟨[], m2⟩) (h2 : PairsS m2) (g3 : Γ[c3]? = some ⟨[], m3⟩) (h3 : PotS m3) (g4 : Γ[c4]? = some ⟨[0], m4⟩) (h4 : ScenarioS m4) (g5 : Γ[c5]? = some ⟨[0], m5⟩) (h5 : BentS m5) (g6 : Γ[c6]? = some ⟨[], m6⟩) (h6 : ScenS m6) :
    ∀ ns : List Int, ns.length ≤ 63 → T (fun p => p.1 = .bool true ∧ p.2 = []) ((F_law c1 c2 c3 c4 c5 c6).mng Γ [.list (ns.map .int)]) := by
  intro ns hns
  refine (mng_T (P := fun x o => x = .bool true ∧ o = []) rfl).mpr ?_
  unfold F_law
  walk_at "hx"
  rw [show PyData.tuple [.int 8, .int 4, .int 28, .int 256] = tI [8, 4, 28, 256] from rfl, cm_ne_tI]
  walk_at "hx"
  refine ⟨fun _ => ?_, fun h => absurd trivial h⟩
  refine loop_T (I := fun i ρ => ∃ o2 o3, ρ = [some (.list (ns.map .int)), none, o2, o3, none, none, none, none, none]) ⟨_, _, rfl⟩ ?_ ?_
  · rintro i x ρ hx ⟨o2, o3, rfl⟩
    have hm := List.mem_of_getElem? hx
    have : ∃ (n : Nat) (b : Bool), x = .tuple [.int n, .bool b] ∧ n ≤ 100 ∧ ∀ ds : List (List Int), ds.Perm (pairsL n) → asc (ds.map tI) = true → isScen (dS twos ds) = b := by
      simp only [List.mem_cons, List.not_mem_nil, or_false] at hm
      rcases hm with rfl | rfl | rfl
      · exact ⟨20, true, rfl, by decide, fun ds pm ha => pairs_scen pm ha (by decide)⟩
      · exact ⟨21, false, rfl, by decide, fun ds pm ha => pairs_not pm⟩
      · exact ⟨0, true, rfl, by decide, fun ds pm ha => pairs_scen pm ha (by decide)⟩
    obtain ⟨n, b, rfl, hn, hb⟩ := this
    refine ⟨_, rfl, ?_⟩
    walk_at "hx"
    rw [op_mul8]
    refine call_0 g2 ((h2 n hn).mono fun p hp => ?_)
    obtain ⟨ds, e, pm, ha⟩ := hp
    rw [e]
    have hlen : ds.length ≤ 36 := by
      have := pm.length_eq
      have := (pairs_sub n).length_le
      have : (pairsL 28).length = 36 := by decide +kernel
      omega
    have sh : Both 12 50000 (dS twos ds) := both_dS (by decide) (by decide) (n := 8) (width := 2) ⟨pm.nodup_iff.mpr (pairs_nd n), fun c hc => pairs_each n c (pm.mem_iff.mp hc)⟩ (by decide) (by decide) (by omega)
    refine call_0 g1 ((h1 (dS twos ds) (sh.odd.short (by decide))).mono fun p hp => ?_)
    rw [hp, hb ds pm ha]
    rw [repr_bool]
    walk_at "hx"
    rw [repr_bool, cm_ne_str]
    walk_at "hx"
    refine ⟨fun _ => ⟨_, _, rfl⟩, fun h => ?_⟩
    rw [beq_self_eq_true] at h
    cases h
  · rintro ρ ⟨o2, o3, rfl⟩
    rw [show PyData.tuple [PyData.tuple [PyData.int 4, .int 4, .int 4, .int 4], .tuple [.tuple [.int 0, .int 1, .int 2, .int 3]]] = dS [4, 4, 4, 4] [[0, 1, 2, 3]] from rfl]
    refine call_0 g1 ((h1 _ ((both_dS (n := 8) (width := 4) (by decide) (by decide) ⟨by decide, fun c hc => by rw [List.mem_singleton.mp hc]; exact ⟨by decide, by decide, by decide, rfl⟩⟩ (by decide) (by decide) (by decide)).odd.short (by decide))).mono fun p hp => ?_)
    rw [hp, show isScen (dS [4, 4, 4, 4] [[0, 1, 2, 3]]) = true from by decide +kernel, cm_ne_bool]
    walk_at "hx"
    rw [op_mul8, rng_i (by decide) (by decide)]
    refine ⟨fun _ => ⟨_, rfl, ?_⟩, fun h => absurd h (by decide)⟩
    have c8 : CtxP 8 8 [0, 1, 2, 3, 4, 5, 6, 7] := ⟨by decide, by decide, by decide, rfl⟩
    have b8 : Both 12 50000 (dS twos [[0, 1, 2, 3, 4, 5, 6, 7]]) := (both_tup (n := 2) (both_2 ((both_tI (l := twos) (by decide)).mono (by decide : 1 ≤ 4) (by decide : _ ≤ 1000)) ((both_tup (n := 1) (both_1 (both_tI (l := [0, 1, 2, 3, 4, 5, 6, 7]) (by decide))) (Nat.le_of_ble_eq_true rfl)).mono (by decide) (by decide))) (Nat.le_of_ble_eq_true rfl)).mono (by decide) (by decide)
    refine call_0 g1 ((h1 (dS twos [[0, 1, 2, 3, 4, 5, 6, 7]]) (b8.odd.short (by decide))).mono fun p hp => ?_)
    rw [hp, show isScen (dS twos [[0, 1, 2, 3, 4, 5, 6, 7]]) = true from by decide +kernel, cm_ne_bool]
    walk_at "hx"
    refine ⟨fun _ => ?_, fun h => absurd h (by decide)⟩
    have b5 : Both 12 50000 (dS [4, 4, 4, 4, 2] [[0, 1, 2, 3, 4]]) := (both_tup (n := 2) (both_2 ((both_tI (l := [4, 4, 4, 4, 2]) (by decide)).mono (by decide : 1 ≤ 4) (by decide : _ ≤ 1000)) ((both_tup (n := 1) (both_1 (both_tI (l := [0, 1, 2, 3, 4]) (by decide))) (Nat.le_of_ble_eq_true rfl)).mono (by decide) (by decide))) (Nat.le_of_ble_eq_true rfl)).mono (by decide) (by decide)
    refine call_0 g1 ((h1 (dS [4, 4, 4, 4, 2] [[0, 1, 2, 3, 4]]) (b5.odd.short (by decide))).mono fun p hp => ?_)
    rw [hp, show isScen (dS [4, 4, 4, 4, 2] [[0, 1, 2, 3, 4]]) = false from by decide +kernel, cm_ne_bool]
    walk_at "hx"
    refine ⟨fun _ => ?_, fun h => absurd h (by decide)⟩
    rw [k_min2, k_max2]
    generalize hk : (if (if (((ns.map PyData.int).length : Nat) : Int) < 40 then (((ns.map PyData.int).length : Nat) : Int) else 40) > 2 then (if (((ns.map PyData.int).length : Nat) : Int) < 40 then (((ns.map PyData.int).length : Nat) : Int) else 40) else 2) = top
    have ht : 0 ≤ top ∧ top ≤ 40 := by
      rw [List.length_map] at hk
      split at hk <;> omega
    rw [rng_i (by omega) (by omega)]
    refine ⟨_, rfl, ?_⟩
    refine loop_T (I := fun i ρ => ∃ o1 o2 o3 o4 o5 o6 o7, ρ = [some (.list (ns.map .int)), o1, o2, o3, o4, o5, o6, o7, none]) ?_ ?_ ?_
    · exact ⟨_, _, _, _, _, _, _, rfl⟩
    · rintro i x ρ hx ⟨o1, o2, o3, o4, o5, o6, o7, rfl⟩
      obtain ⟨hi, rfl⟩ := rng_get hx
      have hi : i < 40 := by omega
      refine ⟨_, rfl, ?_⟩
      walk_at "hx"
      refine call_0 g3 ((h3 ns i (by omega)).mono fun p hp => ?_)
      generalize p.1 = pd at hp
      walk_at "hx"
      have hpl : 10000 ≤ potLim := by decide
      refine call_1 g4 rfl rfl ((h4 0 pd 8 256 4 400 hp (by omega) (by decide) (by decide) (by decide) (by decide) (by decide) (by decide)).mono fun p hp2 => ?_)
      obtain ⟨l, cs, d2, e1, e2, sc, hp2⟩ := hp2
      refine ⟨d2, e2, ?_⟩
      rw [e1]
      have l8 : l.length ≤ 8 := by have := sc.sz.len2; omega
      have hl : ∀ s ∈ l, -8 ≤ s ∧ s ≤ 15 := fun s hs => by have := sc.sz.all s hs; omega
      have bS : Both 12 50000 (dS l cs) := both_dS hl l8 sc.ctx (by omega) (by decide) (by have := sc.len2; omega)
      generalize hD : dS l cs = D at bS
      walk_at "hx"
      rw [rng_i (by decide) (by decide)]
      refine ⟨_, rfl, ?_⟩
      refine comp_S (I := fun j acc ρ => ∃ pd o8, ρ = [some (.list (ns.map .int)), some (.int (i : Int)), o2, o3, some pd, some D, o6, o7, o8] ∧ Pot (600 + 4 * j) pd ∧ acc.length = j ∧ ∀ x ∈ acc, Odd 12 50000 x) ?_ ?_ ?_
      · exact ⟨d2, none, rfl, hp2.mono (by omega), rfl, fun x hx => by cases hx⟩
      · rintro j x acc ρ hx ⟨pd, o8, rfl, q1, q2, q3⟩
        obtain ⟨hj, rfl⟩ := rng_get hx
        have hj : j < 8 := hj
        refine ⟨_, rfl, ?_⟩
        walk_at "hx"
        refine ⟨fun _ => ?_, fun h => by cases h⟩
        subst hD
        refine call_1 g5 rfl rfl ((h5 _ pd l cs (max 3 4) q1 (by omega) sc.sz.len1 l8 hl (by decide) sc.len1 (by have := sc.len2; omega) sc.ctx).mono fun p hp3 => ?_)
        obtain ⟨ho, d3, e3, hp3⟩ := hp3
        refine ⟨d3, e3, d3, _, rfl, hp3.mono (by omega), by rw [List.length_append, q2]; rfl, fun x hx => ?_⟩
        rcases List.mem_append.mp hx with hx | hx
        · exact q3 x hx
        · rw [List.mem_singleton.mp hx]; exact ho
      · rintro acc ρ ⟨pd, o8, rfl, q1, q2, q3⟩
        rw [List.length_map, List.length_range] at q1 q2
        have q2 : acc.length = 8 := q2
        refine ⟨by unfold lim; omega, ?_⟩
        unfold back
        walk_at "hx"
        refine ⟨by unfold lim; omega, ?_⟩
        refine loop_T (I := fun _ ρ => ∃ o6 o7, ρ = [some (.list (ns.map .int)), some (.int (i : Int)), o2, o3, some pd, some D, o6, o7, none]) ⟨o6, o7, rfl⟩ ?_ ?_
        · rintro j x ρ hx ⟨o6, o7, rfl⟩
          have ho : Odd 12 50000 x := by
            rcases List.mem_cons.mp (List.mem_of_getElem? hx) with h | h
            · rw [h]; exact bS.odd
            · exact q3 x h
          have hs : shortD x := ho.short (by decide)
          refine ⟨_, rfl, ?_⟩
          walk_at "hx"
          rw [ho.repr (by decide) (by decide)]
          refine call_0 g1 ((h1 x hs).mono fun p hp => ?_)
          rw [hp, repr_bool]
          walk_at "hx"
          refine call_0 g6 ((h6 x hs).mono fun p hp => ?_)
          rw [hp, repr_bool, cm_ne_str]
          walk_at "hx"
          refine ⟨fun _ => ?_, fun h => by rw [beq_self_eq_true] at h; cases h⟩
          rw [ho.repr (by decide) (by decide), cm_ne_str]
          walk_at "hx"
          refine ⟨fun _ => ⟨_, _, rfl⟩, fun h => by rw [beq_self_eq_true] at h; cases h⟩
        · rintro ρ ⟨o6, o7, rfl⟩
          exact ⟨_, _, _, _, _, _, _, rfl⟩
    · rintro ρ ⟨o1, o2, o3, o4, o5, o6, o7, rfl⟩
      exact ⟨rfl, rfl, rfl⟩
end Hx

set_option Elab.async false
set_option linter.all false
set_option maxRecDepth 100000
set_option maxHeartbeats 4000000
/-! P19: the table of callees. -/
namespace Hx
open PySem
/-- the first n of them -/
noncomputable def tabN (ds : List DefR) (n : Nat) : List Callee := (ds.take n).foldl addC []
theorem fold_low : ∀ {ds : List DefR} {Γ : List Callee} {i : Nat}, i < Γ.length → (ds.foldl addC Γ)[i]? = Γ[i]?
  | [], Γ, i, _ => rfl
  | d :: ds, Γ, i, h => by
    show (ds.foldl addC (addC Γ d))[i]? = _
    have hl : (addC Γ d).length = Γ.length + 1 := by unfold addC; simp
    rw [fold_low (by rw [hl]; omega)]
    unfold addC
    exact List.getElem?_append_left h
theorem fold_at : ∀ {ds : List DefR} {Γ : List Callee} {j : Nat} {d : DefR}, ds[j]? = some d → (ds.foldl addC Γ)[Γ.length + j]? = some ⟨d.sig.br, d.F.mng ((ds.take j).foldl addC Γ)⟩
  | [], Γ, j, d, h => by cases h
  | x :: ds, Γ, 0, d, h => by
    have e : x = d := by simpa using h
    subst e
    show (ds.foldl addC (addC Γ x))[Γ.length]? = _
    have hl : (addC Γ x).length = Γ.length + 1 := by unfold addC; simp
    rw [fold_low (by rw [hl]; omega)]
    unfold addC
    rw [List.getElem?_append_right (Nat.le_refl _)]
    simp
  | x :: ds, Γ, j + 1, d, h => by
    have hl : (addC Γ x).length = Γ.length + 1 := by unfold addC; simp
    have := fold_at (ds := ds) (Γ := addC Γ x) (j := j) (d := d) (by simpa using h)
    rw [hl] at this
    show (ds.foldl addC (addC Γ x))[Γ.length + (j + 1)]? = _
    rw [show Γ.length + (j + 1) = Γ.length + 1 + j by omega, this]
    rfl
theorem tab_at {ds : List DefR} {n j : Nat} {d : DefR} (h : ds[j]? = some d) (hj : j < n) : (tabN ds n)[j]? = some ⟨d.sig.br, d.F.mng (tabN ds j)⟩ := by
  have h2 : (ds.take n)[j]? = some d := by rw [List.getElem?_take, if_pos hj]; exact h
  have := fold_at (Γ := []) h2
  rw [List.length_nil, Nat.zero_add, List.take_take, Nat.min_eq_left (Nat.le_of_lt hj)] at this
  exact this
theorem plain_of {F : Fn} {Γ Γ' : List Callee} {n : Nat} (e : Γ' = Γ) (h : ∀ ns : List Int, ns.length ≤ n → T (fun p => p.1 = .bool true ∧ p.2 = []) (F.mng Γ' [.list (ns.map .int)])) : ∀ ns : List Int, ns.length ≤ n → (∀ z ∈ ns, Builtin.Int.intBits z ≤ 1048576) → F.mng Γ [.list (ns.map .int)] = .ok (.bool true, []) := by
  intro ns hn _
  obtain ⟨⟨x, o⟩, e1, e2, e3⟩ := h ns hn
  dsimp only at e2 e3
  rw [← e, e1, e2, e3]
end Hx

set_option Elab.async false
set_option linter.all false
set_option maxRecDepth 100000
set_option maxHeartbeats 4000000
/-! P20: the package's first stage on scenarios: what is needed, sizes, contexts. -/
namespace Hx
open PySem
local macro_rules | `(tactic| walk_at "hx") => `(tactic| simp only [E_v, E_lit, E_con, E_edct, E_tup, E_lst, E_neg, E_bin, E_cmp, E_chain, E_isN, E_not, E_and, E_or, EAnd_nil, EAnd_cons, EOr_nil, EOr_cons, E_ite, E_call, E_callk, E_bi, E_mkt, E_mkl, E_isa, E_idx, E_sl, E_rev, E_ixof, E_dzip, E_dget, E_comp, E_comp2, E_dcomp2, E_pop, Es_nil, Es_cons, Et_val, Et_not, Et_and, Et_or, ECs_nil, ECs_cons, EDs_nil, EDs_cons, EO_non, EO_som, EI_seq, EI_rng, EI_zip, EI_enm,
  St_asg, St_unp, St_setix, St_aug, St_ex, St_app, St_ext, St_ret, St_if, St_for, St_pas, Ss_nil, Ss_cons, Lit.d, List.getElem?_cons_zero, List.getElem?_cons_succ, List.set_cons_zero, List.set_cons_succ, List.length_cons, List.length_nil, List.map_cons, List.map_nil, List.replicate_succ, List.replicate_zero, List.cons_append, List.nil_append, Option.some.injEq, exists_eq_left', exists_eq_left, PyData.int.injEq, PyData.list.injEq, PyData.tuple.injEq, PyData.bool.injEq, PyData.str.injEq,
  ifB_tt, ifB_ff, ifB_dec, ifB_not, op_add, op_sub, op_mul, op_mod, op_fdiv, op_pow, op_addt, op_addl, cm_lt, cm_le, cm_gt, cm_ge, cm_eq, cm_ne, b_bool, t_bool, bi_len_l, bi_len_t, bi_tuple_l, bi_tuple_t, bi_list_l, bi_list_t, bi_int_i, bi_int_b, bi_absI, ix_list, ix_tuple, at_0, at_1, at_2, at_3, Bool.not_true, Bool.not_false, Nat.reduceSub, Nat.reduceAdd, neg_i, int_i, items_l, items_t, items_ll, exists_const, exists_and_left, ix30, ix31, ix32, own_v, own_tup, wipe_nil, wipe_cons, bindT_v, bindT_tup, setAll_nil, setAll_cons, true_and, and_true])
/-- a scenario, told by its parts -/
structure Sce (l : List Int) (cs : List (List Int)) : Prop where
  ok : isScen (dS l cs) = true
  sh : shortD (dS l cs)
  l1 : 1 ≤ l.length
  l8 : l.length ≤ 8
  sz : ∀ s ∈ l, 2 ≤ s ∧ s ≤ 4
  ctx : Ctxs l.length 8 cs
  c1 : 1 ≤ cs.length
  c28 : cs.length ≤ 28
/-- questions of it, ascending -/
structure Qs (n : Int) (q : List Int) : Prop where
  bet : ∀ i ∈ q, 0 ≤ i ∧ i < n
  asc : asc (q.map .int) = true
  len : q.length ≤ 8
theorem CtxP.qs {n w : Int} {c : List Int} (h : CtxP n w c) (hw : w ≤ 8) : Qs n c := ⟨h.bet, h.asc, by have := h.len; omega⟩
theorem Qs.nil {n : Int} : Qs n [] := ⟨fun i hi => (by cases hi), rfl, by simp⟩
theorem Qs.asked {l q : List Int} (h : Qs l.length q) (hl : ∀ s ∈ l, 2 ≤ s ∧ s ≤ 4) : Asked l q := ⟨fun s hs => by have := hl s hs; omega, h.bet, by have := h.len; omega⟩
theorem Qs.nums {n : Int} {q : List Int} (h : Qs n q) : isNums (n - 1) (tI q) = true := by
  show (allBet 0 (n - 1) (q.map .int) && Hx.asc (q.map .int)) = true
  rw [allBet_ints (fun x hx => by have := h.bet x hx; omega), h.asc]
  rfl
theorem Scen.sce {most full width : Int} {l : List Int} {cs : List (List Int)} (h : Scen most full width l cs) (m8 : most ≤ 8) (f : full ≤ 256) (w4 : width ≤ 4) : Sce l cs := by
  have l8 : l.length ≤ 8 := by have := h.sz.len2; omega
  have c21 := h.len2
  refine ⟨h.is m8 f, ?_, h.sz.len1, l8, h.sz.all, h.ctx.wide (by omega), h.len1, by omega⟩
  exact (both_dS (fun s hs => by have := h.sz.all s hs; omega) l8 h.ctx (by omega) w4 (by omega)).odd.short (by decide)
def NeedS1 (m : Mng) : Prop := ∀ l cs, Sce l cs → T (fun _ => True) (m [dS l cs])
theorem need_scenario_s {Γ : List Callee} {c : Nat} {m : Mng} (g : Γ[c]? = some ⟨[], m⟩) (h : ScenS m) : NeedS1 ((F_need_scenario c).mng Γ) := by
  intro l cs sc
  refine (mng_T (P := fun _ _ => True) rfl).mpr ?_
  unfold F_need_scenario
  walk_at "hx"
  refine call_0 g ((h _ sc.sh).mono fun p hp => ?_)
  rw [hp, sc.ok]
  walk_at "hx"
  trivial
def FullSizeS (m : Mng) : Prop := ∀ l cs, Sce l cs → T (fun p => p.1 = .int (prodI l)) (m [dS l cs])
theorem full_size_s {Γ : List Callee} {c1 c2 : Nat} {m1 m2 : Mng} (g1 : Γ[c1]? = some ⟨[], m1⟩) (h1 : NeedS1 m1) (g2 : Γ[c2]? = some ⟨[], m2⟩) (h2 : ProductS m2) : FullSizeS ((F_full_size c1 c2).mng Γ) := by
  intro l cs sc
  refine (mng_T (P := fun x _ => x = .int (prodI l)) rfl).mpr ?_
  unfold F_full_size
  walk_at "hx"
  refine call_0 g1 ((h1 l cs sc).mono fun p _ => ?_)
  unfold dS
  walk_at "hx"
  refine call_0 g2 ((h2 (tI l) l rfl ⟨by have := sc.l8; omega, fun s hs => by have := sc.sz s hs; omega⟩).mono fun p hp => ?_)
  exact ⟨rfl, hp⟩
def NeedIndexS (m : Mng) : Prop := ∀ l cs (i : Nat), i < cs.length → T (fun _ => True) (m [dS l cs, .int i])
theorem need_index_s {Γ : List Callee} {c : Nat} {m : Mng} (g : Γ[c]? = some ⟨[], m⟩) (h : BetweenS m) : NeedIndexS ((F_need_index c).mng Γ) := by
  intro l cs i hi
  refine (mng_T (P := fun _ _ => True) rfl).mpr ?_
  unfold F_need_index dS
  walk_at "hx"
  refine call_0 g ((h (.int i) 0 ((((cs.map tI).length : Nat) : Int) - 1)).mono fun p hp => ?_)
  rw [hp]
  rw [show isBet 0 ((((cs.map tI).length : Nat) : Int) - 1) (.int i) = true by
    rw [List.length_map]
    simp only [isBet, isInt, Bool.and_eq_true, decide_eq_true_eq, true_and]
    omega]
  walk_at "hx"
  trivial
def ContextAtS (m : Mng) : Prop := ∀ l cs (i : Nat) c, Sce l cs → cs[i]? = some c → T (fun p => p.1 = tI c) (m [dS l cs, .int i])
theorem context_at_s {Γ : List Callee} {c1 c2 : Nat} {m1 m2 : Mng} (g1 : Γ[c1]? = some ⟨[], m1⟩) (h1 : NeedS1 m1) (g2 : Γ[c2]? = some ⟨[], m2⟩) (h2 : NeedIndexS m2) : ContextAtS ((F_context_at c1 c2).mng Γ) := by
  intro l cs i c sc hc
  refine (mng_T (P := fun x _ => x = tI c) rfl).mpr ?_
  unfold F_context_at
  walk_at "hx"
  have hi : i < cs.length := (List.getElem?_eq_some_iff.mp hc).1
  refine call_0 g1 ((h1 l cs sc).mono fun p _ => ?_)
  walk_at "hx"
  refine call_0 g2 ((h2 l cs i hi).mono fun p _ => ?_)
  unfold dS
  walk_at "hx"
  refine ⟨tI c, ?_, ?_⟩
  · rw [at_nat, List.getElem?_map, hc]
    rfl
  · exact ⟨rfl, rfl⟩
def AreQsS (m : Mng) : Prop := ∀ l cs q, Sce l cs → Qs l.length q → T (fun p => p.1 = .bool true) (m [dS l cs, tI q])
theorem are_questions_s {Γ : List Callee} {c : Nat} {m : Mng} (g : Γ[c]? = some ⟨[], m⟩) (h : NumsS m) : AreQsS ((F_are_questions c).mng Γ) := by
  intro l cs q sc hq
  refine (mng_T (P := fun x _ => x = .bool true) rfl).mpr ?_
  unfold F_are_questions dS
  walk_at "hx"
  unfold tI
  walk_at "hx"
  have hs : shortT (tI q) := by
    show (q.map PyData.int).length ≤ lim
    rw [List.length_map]
    have := hq.len
    unfold lim
    omega
  refine call_0 g ((h (tI q) ((l.map PyData.int).length : Nat) hs).mono fun p hp => ?_)
  rw [List.length_map, hq.nums] at hp
  exact ⟨rfl, hp⟩
def NeedQsS (m : Mng) : Prop := ∀ l cs q, Sce l cs → Qs l.length q → T (fun _ => True) (m [dS l cs, tI q])
theorem need_questions_s {Γ : List Callee} {c : Nat} {m : Mng} (g : Γ[c]? = some ⟨[], m⟩) (h : AreQsS m) : NeedQsS ((F_need_questions c).mng Γ) := by
  intro l cs q sc hq
  refine (mng_T (P := fun _ _ => True) rfl).mpr ?_
  unfold F_need_questions
  walk_at "hx"
  refine call_0 g ((h l cs q sc hq).mono fun p hp => ?_)
  rw [hp]
  walk_at "hx"
  trivial
end Hx

set_option Elab.async false
set_option linter.all false
set_option maxRecDepth 100000
set_option maxHeartbeats 4000000
/-! P21: rows of questions. -/
namespace Hx
open PySem
local macro_rules | `(tactic| walk_at "hx") => `(tactic| simp only [E_v, E_lit, E_con, E_edct, E_tup, E_lst, E_neg, E_bin, E_cmp, E_chain, E_isN, E_not, E_and, E_or, EAnd_nil, EAnd_cons, EOr_nil, EOr_cons, E_ite, E_call, E_callk, E_bi, E_mkt, E_mkl, E_isa, E_idx, E_sl, E_rev, E_ixof, E_dzip, E_dget, E_comp, E_comp2, E_dcomp2, E_pop, Es_nil, Es_cons, Et_val, Et_not, Et_and, Et_or, ECs_nil, ECs_cons, EDs_nil, EDs_cons, EO_non, EO_som, EI_seq, EI_rng, EI_zip, EI_enm,
  St_asg, St_unp, St_setix, St_aug, St_ex, St_app, St_ext, St_ret, St_if, St_for, St_pas, Ss_nil, Ss_cons, Lit.d, List.getElem?_cons_zero, List.getElem?_cons_succ, List.set_cons_zero, List.set_cons_succ, List.length_cons, List.length_nil, List.map_cons, List.map_nil, List.replicate_succ, List.replicate_zero, List.cons_append, List.nil_append, Option.some.injEq, exists_eq_left', exists_eq_left, PyData.int.injEq, PyData.list.injEq, PyData.tuple.injEq, PyData.bool.injEq, PyData.str.injEq,
  ifB_tt, ifB_ff, ifB_dec, ifB_not, op_add, op_sub, op_mul, op_mod, op_fdiv, op_pow, op_addt, op_addl, cm_lt, cm_le, cm_gt, cm_ge, cm_eq, cm_ne, b_bool, t_bool, bi_len_l, bi_len_t, bi_tuple_l, bi_tuple_t, bi_list_l, bi_list_t, bi_int_i, bi_int_b, bi_absI, ix_list, ix_tuple, at_0, at_1, at_2, at_3, Bool.not_true, Bool.not_false, Nat.reduceSub, Nat.reduceAdd, neg_i, int_i, items_l, items_t, items_ll, exists_const, exists_and_left, ix30, ix31, ix32, own_v, own_tup, wipe_nil, wipe_cons, bindT_v, bindT_tup, setAll_nil, setAll_cons, true_and, and_true])
section
variable {Γ : List Callee} {ρ : Env} {P : PyData → Env → Prop}
theorem comp2_T {t t2 : Tgt} {it2 : II} {e : IE} (f : PyData → List PyData) (g : PyData → PyData → PyData) {xs : List PyData}
    (hs : ∀ x ∈ xs, ∃ ρ2, bindT t x (wipe ρ (t.own ++ t2.own)) = some ρ2 ∧ (EI Γ it2 ρ2 fun ys ρ3 => ys = f x ∧ ρ3 = ρ2) ∧ ∀ y ∈ f x, ∃ ρ4, bindT t2 y (wipe ρ2 t2.own) = some ρ4 ∧ E Γ e ρ4 fun d ρ5 => d = g x y ∧ ρ5 = ρ4)
    (hl : (xs.flatMap fun x => (f x).map (g x)).length ≤ lim) (hP : P (.list (xs.flatMap fun x => (f x).map (g x))) ρ) : comp2X Γ t .nil t2 it2 .nil e xs ρ P := by
  unfold comp2X c2F
  refine (turns_lev (g := fun x => (f x).map (g x)) fun x hx => ?_).mono fun q hq => ?_
  · obtain ⟨ρ2, e1, h1, h2⟩ := hs x hx
    have lk : Like (t.own ++ t2.own) ρ ρ2 := Like.refl.bind e1 fun i hi => List.mem_append_left _ hi
    refine ⟨ρ2, e1, ?_⟩
    have e0 : ((evCs Γ .nil ρ2).bnd fun p => if p.1 = true then (evI Γ it2 p.2).bnd fun q => turns (levF t2 t2.own fun ρ => (evCs Γ .nil ρ).bnd fun p => if p.1 = true then (evE Γ e p.2).bnd fun q => .ok ([q.1], q.2) else .ok ([], p.2)) q.1 q.2 else .ok ([], p.2)) =
      (evI Γ it2 ρ2).bnd fun q => turns (levF t2 t2.own fun ρ => (evCs Γ .nil ρ).bnd fun p => if p.1 = true then (evE Γ e p.2).bnd fun q => .ok ([q.1], q.2) else .ok ([], p.2)) q.1 q.2 := rfl
    rw [e0, T_bnd]
    refine h1.mono fun q hq => ?_
    rw [hq.1, hq.2]
    refine (turns_lev (g := fun y => [g x y]) fun y hy => ?_).mono fun r hr => ?_
    · obtain ⟨ρ4, e4, h4⟩ := h2 y hy
      refine ⟨ρ4, e4, ?_⟩
      have lk4 : Like t2.own ρ2 ρ4 := Like.refl.bind e4 fun i hi => hi
      have e5 : ((evCs Γ .nil ρ4).bnd fun p => if p.1 = true then (evE Γ e p.2).bnd fun q => .ok ([q.1], q.2) else .ok ([], p.2)) = (evE Γ e ρ4).bnd fun q => .ok ([q.1], q.2) := rfl
      rw [e5, T_bnd]
      refine h4.mono fun a ha => ?_
      rw [T_ok]
      exact ⟨by rw [ha.1], by rw [ha.2]; exact lk4⟩
    · refine ⟨?_, lk.trans' hr.2 fun i hi => List.mem_append_right _ hi⟩
      rw [hr.1]
      induction f x with
      | nil => rfl
      | cons y ys ih => rw [List.flatMap_cons, ih]; rfl
  · rw [hq.1]
    exact ⟨hl, by rw [hq.2.back]; exact hP⟩
end
def RowsByS (m : Mng) : Prop := ∀ l cs q, Sce l cs → Qs l.length q → T (fun p => p.1 = .tuple ((rowsL l q).map tI)) (m [dS l cs, tI q])
theorem rows_by_s {Γ : List Callee} : RowsByS (F_rows_by.mng Γ) := by
  intro l cs q sc hq
  have ask := hq.asked sc.sz
  refine (mng_T (P := fun x _ => x = .tuple ((rowsL l q).map tI)) rfl).mpr ?_
  unfold F_rows_by dS
  walk_at "hx"
  refine ⟨_, rfl, ?_⟩
  refine loop_T (I := fun i ρ => ∃ o3, ρ = [some (.tuple [tI l, .tuple (cs.map tI)]), some (tI q), some (.list ((rowsL l (q.take i)).map tI)), o3, none, none]) ⟨_, rfl⟩ ?_ ?_
  · rintro i x ρ hx ⟨o3, rfl⟩
    rw [List.getElem?_map] at hx
    obtain ⟨k, hk, rfl⟩ := Option.map_eq_some_iff.mp hx
    obtain ⟨ea, s1, s4⟩ := ask.at (List.mem_of_getElem? hk)
    have tk : q.take (i + 1) = q.take i ++ [k] := by
      rw [List.take_succ, hk]
      rfl
    have hlen := rowsL_lim (ask.pre (i + 1))
    rw [tk, rowsL_snoc] at hlen
    refine ⟨_, rfl, ?_⟩
    walk_at "hx"
    have each := fun r => rowsL_each (sizes := l) (asked := q.take i) r
    rw [tk, rowsL_snoc]
    generalize rowsL l (q.take i) = rows at hlen each
    have fin : ((rows.map tI).flatMap fun x => ((List.range (sizeAt l k)).map fun a : Nat => PyData.int (a : Int)).map fun y => .tuple (itemsV x ++ [y])) = (longer l rows k).map tI := by
      unfold longer
      rw [List.map_flatMap, List.flatMap_map]
      congr 1
      funext r
      rw [List.map_map, List.map_map]
      refine List.map_congr_left fun a _ => ?_
      show PyData.tuple (r.map .int ++ [.int (a : Int)]) = tI (r ++ [(a : Int)])
      unfold tI
      rw [List.map_append]
      rfl
    refine comp2_T (fun _ => (List.range (sizeAt l k)).map fun a : Nat => .int (a : Int)) (fun x y => .tuple (itemsV x ++ [y])) (fun x hx => ⟨_, rfl, ?_, fun y hy => ⟨_, rfl, ?_⟩⟩) ?_ ?_
    · unfold tI
      walk_at "hx"
      refine ⟨_, ea, ?_⟩
      rw [rng_i (by omega) (by omega), Int.toNat_natCast]
      exact ⟨_, rfl, rfl⟩
    · obtain ⟨r, hr, rfl⟩ := List.mem_map.mp hx
      have hl := each r hr
      unfold tI
      walk_at "hx"
      refine ⟨?_, rfl⟩
      rw [List.length_map, hl, List.length_take]
      have := hq.len
      unfold lim
      omega
    · rw [fin, List.length_map]
      unfold lim
      omega
    · rw [fin]
      exact ⟨_, rfl⟩
  · rintro ρ ⟨o3, rfl⟩
    rw [List.length_map, List.take_length]
    walk_at "hx"
    exact ⟨rfl, rfl⟩
def RowsOfS (m : Mng) : Prop := ∀ l cs q, Sce l cs → Qs l.length q → T (fun p => p.1 = .tuple ((rowsL l q).map tI)) (m [dS l cs, tI q])
theorem rows_of_s {Γ : List Callee} {c1 c2 c3 : Nat} {m1 m2 m3 : Mng} (g1 : Γ[c1]? = some ⟨[], m1⟩) (h1 : NeedS1 m1) (g2 : Γ[c2]? = some ⟨[], m2⟩) (h2 : NeedQsS m2) (g3 : Γ[c3]? = some ⟨[], m3⟩) (h3 : RowsByS m3) : RowsOfS ((F_rows_of c1 c2 c3).mng Γ) := by
  intro l cs q sc hq
  refine (mng_T (P := fun x _ => x = .tuple ((rowsL l q).map tI)) rfl).mpr ?_
  unfold F_rows_of
  walk_at "hx"
  refine call_0 g1 ((h1 l cs sc).mono fun p _ => ?_)
  walk_at "hx"
  refine call_0 g2 ((h2 l cs q sc hq).mono fun p _ => ?_)
  walk_at "hx"
  refine call_0 g3 ((h3 l cs q sc hq).mono fun p hp => ?_)
  exact ⟨rfl, hp⟩
end Hx

set_option Elab.async false
set_option linter.all false
set_option maxRecDepth 100000
set_option maxHeartbeats 4000000
/-! P22: the place of a row. -/
namespace Hx
open PySem
theorem blocks_get {s : Nat} (hs : 0 < s) : ∀ {rows : List (List Int)} {j : Nat}, (rows.flatMap fun r => (List.range s).map fun a : Nat => r ++ [(a : Int)])[j]? = (rows[j / s]?).map fun r => r ++ [((j % s : Nat) : Int)]
  | [], j => by simp
  | r :: rows, j => by
    rw [List.flatMap_cons]
    by_cases h : j < s
    · rw [List.getElem?_append_left (by rw [List.length_map, List.length_range]; exact h), List.getElem?_map, List.getElem?_range h, Nat.div_eq_of_lt h, Nat.mod_eq_of_lt h]
      rfl
    · rw [List.getElem?_append_right (by rw [List.length_map, List.length_range]; omega), List.length_map, List.length_range, blocks_get hs]
      have e1 : j / s = (j - s) / s + 1 := by rw [Nat.div_eq_sub_div hs (by omega)]
      have e2 : j % s = (j - s) % s := Nat.mod_eq_sub_mod (by omega)
      rw [e1, e2, List.getElem?_cons_succ]
theorem longer_get {l : List Int} {rows : List (List Int)} {k : Int} (hs : 0 < sizeAt l k) {j : Nat} : (longer l rows k)[j]? = (rows[j / sizeAt l k]?).map fun r => r ++ [((j % sizeAt l k : Nat) : Int)] := blocks_get hs
/-- the place that a row's answers say -/
def idxR (l : List Int) (ps : List (Int × Int)) : Int := ps.foldl (fun acc p => acc * (sizeAt l p.1 : Int) + p.2) 0
/-- ascending by its last question -/
theorem snoc_ind {α : Type} {C : List α → Prop} (h0 : C []) (hs : ∀ xs x, C xs → C (xs ++ [x])) : ∀ xs, C xs := by
  have go : ∀ n (xs : List α), xs.length = n → C xs := by
    intro n
    induction n with
    | zero => intro xs h; rw [List.length_eq_zero_iff.mp h]; exact h0
    | succ n ih =>
      intro xs h
      have ne : xs ≠ [] := fun z => by rw [z] at h; cases h
      rw [← List.dropLast_concat_getLast ne]
      exact hs _ _ (ih _ (by rw [List.length_dropLast]; omega))
  exact fun xs => go _ xs rfl
theorem Asked.sub {l q : List Int} {k : Int} (h : Asked l (q ++ [k])) : Asked l q := by
  have := h.pre q.length
  rwa [List.take_left] at this
theorem idx_at {l : List Int} : ∀ q : List Int, Asked l q → ∀ (j : Nat) (r : List Int), (rowsL l q)[j]? = some r → idxR l (q.zip r) = j ∧ r.length = q.length ∧ ∀ p ∈ q.zip r, 0 ≤ p.2 ∧ p.2 < sizeAt l p.1 := by
  refine snoc_ind ?_ ?_
  · intro _ j r h
    cases j with
    | zero => cases h; exact ⟨rfl, rfl, fun p hp => by cases hp⟩
    | succ j => simp [rowsL] at h
  · intro q k ih ask j r h
    have pos := (ask.at (q := k) (by simp)).2.1
    rw [rowsL_snoc, longer_get (by omega)] at h
    obtain ⟨r', h', rfl⟩ := Option.map_eq_some_iff.mp h
    obtain ⟨h1, h2, h3⟩ := ih ask.sub _ _ h'
    rw [List.zip_append h2.symm]
    refine ⟨?_, by simp [h2], fun p hp => ?_⟩
    · unfold idxR at h1 ⊢
      rw [List.foldl_append, h1]
      show ((j / sizeAt l k : Nat) : Int) * (sizeAt l k : Int) + ((j % sizeAt l k : Nat) : Int) = j
      rw [← Int.natCast_mul, ← Int.natCast_add, Nat.mul_comm, Nat.div_add_mod]
    · rcases List.mem_append.mp hp with hp | hp
      · exact h3 p hp
      · have : p = (k, ((j % sizeAt l k : Nat) : Int)) := by simpa using hp
        subst this
        have := Nat.mod_lt j (show 0 < sizeAt l k by omega)
        exact ⟨Int.natCast_nonneg _, Int.ofNat_lt.mpr this⟩
end Hx

set_option Elab.async false
set_option linter.all false
set_option maxRecDepth 100000
set_option maxHeartbeats 4000000
/-! P23: rows checked, their places. -/
namespace Hx
open PySem
local macro_rules | `(tactic| walk_at "hx") => `(tactic| simp only [E_v, E_lit, E_con, E_edct, E_tup, E_lst, E_neg, E_bin, E_cmp, E_chain, E_isN, E_not, E_and, E_or, EAnd_nil, EAnd_cons, EOr_nil, EOr_cons, E_ite, E_call, E_callk, E_bi, E_mkt, E_mkl, E_isa, E_idx, E_sl, E_rev, E_ixof, E_dzip, E_dget, E_comp, E_comp2, E_dcomp2, E_pop, Es_nil, Es_cons, Et_val, Et_not, Et_and, Et_or, ECs_nil, ECs_cons, EDs_nil, EDs_cons, EO_non, EO_som, EI_seq, EI_rng, EI_zip, EI_enm,
  St_asg, St_unp, St_setix, St_aug, St_ex, St_app, St_ext, St_ret, St_if, St_for, St_pas, Ss_nil, Ss_cons, Lit.d, List.getElem?_cons_zero, List.getElem?_cons_succ, List.set_cons_zero, List.set_cons_succ, List.length_cons, List.length_nil, List.map_cons, List.map_nil, List.replicate_succ, List.replicate_zero, List.cons_append, List.nil_append, Option.some.injEq, exists_eq_left', exists_eq_left, PyData.int.injEq, PyData.list.injEq, PyData.tuple.injEq, PyData.bool.injEq, PyData.str.injEq,
  ifB_tt, ifB_ff, ifB_dec, ifB_not, op_add, op_sub, op_mul, op_mod, op_fdiv, op_pow, op_addt, op_addl, cm_lt, cm_le, cm_gt, cm_ge, cm_eq, cm_ne, b_bool, t_bool, bi_len_l, bi_len_t, bi_tuple_l, bi_tuple_t, bi_list_l, bi_list_t, bi_int_i, bi_int_b, bi_absI, ix_list, ix_tuple, at_0, at_1, at_2, at_3, Bool.not_true, Bool.not_false, Nat.reduceSub, Nat.reduceAdd, neg_i, int_i, items_l, items_t, items_ll, exists_const, exists_and_left, ix30, ix31, ix32, own_v, own_tup, wipe_nil, wipe_cons, bindT_v, bindT_tup, setAll_nil, setAll_cons, true_and, and_true])
theorem zip2_ints : ∀ {q r : List Int}, zip2 (q.map .int) (r.map .int) = (q.zip r).map fun p => .tuple [.int p.1, .int p.2]
  | [], r => by cases r <;> rfl
  | _ :: _, [] => rfl
  | a :: q, b :: r => by
    show PyData.tuple [.int a, .int b] :: zip2 (q.map .int) (r.map .int) = _
    rw [zip2_ints]
    rfl
theorem zipD_tI {q r : List Int} : zipD [tI q, tI r] = some ((q.zip r).map fun p => .tuple [.int p.1, .int p.2]) := by
  show some (zip2 (q.map .int) (r.map .int)) = _
  rw [zip2_ints]
/-- a row of these questions -/
structure RowOk (l q r : List Int) : Prop where
  len : r.length = q.length
  bet : ∀ p ∈ q.zip r, 0 ≤ p.2 ∧ p.2 < sizeAt l p.1
def IsRowS (m : Mng) : Prop := ∀ l cs q r, Sce l cs → Qs l.length q → RowOk l q r → T (fun p => p.1 = .bool true) (m [dS l cs, tI q, tI r])
theorem is_row_of_s {Γ : List Callee} {c : Nat} {m : Mng} (g : Γ[c]? = some ⟨[], m⟩) (h : BetweenS m) : IsRowS ((F_is_row_of c).mng Γ) := by
  intro l cs q r sc hq hr
  have ask := hq.asked sc.sz
  refine (mng_T (P := fun x _ => x = .bool true) rfl).mpr ?_
  unfold F_is_row_of dS
  walk_at "hx"
  rw [show isaD .tuple (tI r) = true from rfl]
  unfold tI
  walk_at "hx"
  rw [List.length_map, List.length_map, hr.len]
  refine ⟨fun _ => ⟨_, zipD_tI, ?_⟩, fun z => absurd rfl z⟩
  refine comp_M (fun _ => .bool true) (fun x hx => ?_) ?_ ?_
  · obtain ⟨p, hp, rfl⟩ := List.mem_map.mp hx
    have hpq : p.1 ∈ q := (List.of_mem_zip hp).1
    obtain ⟨ea, s1, s4⟩ := ask.at hpq
    have hb := hr.bet p hp
    refine ⟨_, rfl, ?_⟩
    walk_at "hx"
    refine ⟨_, ea, ?_⟩
    walk_at "hx"
    refine call_0 g ((h (.int p.2) 0 ((sizeAt l p.1 : Int) - 1)).mono fun x hx => ?_)
    rw [hx, show isBet 0 ((sizeAt l p.1 : Int) - 1) (.int p.2) = true by
      simp only [isBet, isInt, Bool.and_eq_true, decide_eq_true_eq, true_and]
      omega]
    exact ⟨rfl, rfl⟩
  · rw [List.length_map, List.length_zip]
    have := hq.len
    unfold lim
    omega
  · rw [k_all (f := fun _ => true) fun _ _ => rfl]
    rw [List.all_eq_true.mpr fun _ _ => rfl]
    exact ⟨rfl, rfl⟩
def NeedRowS (m : Mng) : Prop := ∀ l cs q r, Sce l cs → Qs l.length q → RowOk l q r → T (fun _ => True) (m [dS l cs, tI q, tI r])
theorem need_row_s {Γ : List Callee} {c : Nat} {m : Mng} (g : Γ[c]? = some ⟨[], m⟩) (h : IsRowS m) : NeedRowS ((F_need_row c).mng Γ) := by
  intro l cs q r sc hq hr
  refine (mng_T (P := fun _ _ => True) rfl).mpr ?_
  unfold F_need_row
  walk_at "hx"
  refine call_0 g ((h l cs q r sc hq hr).mono fun p hp => ?_)
  rw [hp]
  walk_at "hx"
  trivial
end Hx

set_option Elab.async false
set_option linter.all false
set_option maxRecDepth 100000
set_option maxHeartbeats 4000000
/-! P24: the place of a row; shared questions. -/
namespace Hx
open PySem
local macro_rules | `(tactic| walk_at "hx") => `(tactic| simp only [E_v, E_lit, E_con, E_edct, E_tup, E_lst, E_neg, E_bin, E_cmp, E_chain, E_isN, E_not, E_and, E_or, EAnd_nil, EAnd_cons, EOr_nil, EOr_cons, E_ite, E_call, E_callk, E_bi, E_mkt, E_mkl, E_isa, E_idx, E_sl, E_rev, E_ixof, E_dzip, E_dget, E_comp, E_comp2, E_dcomp2, E_pop, Es_nil, Es_cons, Et_val, Et_not, Et_and, Et_or, ECs_nil, ECs_cons, EDs_nil, EDs_cons, EO_non, EO_som, EI_seq, EI_rng, EI_zip, EI_enm,
  St_asg, St_unp, St_setix, St_aug, St_ex, St_app, St_ext, St_ret, St_if, St_for, St_pas, Ss_nil, Ss_cons, Lit.d, List.getElem?_cons_zero, List.getElem?_cons_succ, List.set_cons_zero, List.set_cons_succ, List.length_cons, List.length_nil, List.map_cons, List.map_nil, List.replicate_succ, List.replicate_zero, List.cons_append, List.nil_append, Option.some.injEq, exists_eq_left', exists_eq_left, PyData.int.injEq, PyData.list.injEq, PyData.tuple.injEq, PyData.bool.injEq, PyData.str.injEq,
  ifB_tt, ifB_ff, ifB_dec, ifB_not, op_add, op_sub, op_mul, op_mod, op_fdiv, op_pow, op_addt, op_addl, cm_lt, cm_le, cm_gt, cm_ge, cm_eq, cm_ne, b_bool, t_bool, bi_len_l, bi_len_t, bi_tuple_l, bi_tuple_t, bi_list_l, bi_list_t, bi_int_i, bi_int_b, bi_absI, ix_list, ix_tuple, at_0, at_1, at_2, at_3, Bool.not_true, Bool.not_false, Nat.reduceSub, Nat.reduceAdd, neg_i, int_i, items_l, items_t, items_ll, exists_const, exists_and_left, ix30, ix31, ix32, own_v, own_tup, wipe_nil, wipe_cons, bindT_v, bindT_tup, setAll_nil, setAll_cons, true_and, and_true])
def IndexByS (m : Mng) : Prop := ∀ l cs q r, Sce l cs → Qs l.length q → RowOk l q r → T (fun p => p.1 = .int (idxR l (q.zip r))) (m [dS l cs, tI q, tI r])
theorem idxR_bound {l : List Int} : ∀ ps : List (Int × Int), (∀ p ∈ ps, 0 ≤ p.2 ∧ p.2 < sizeAt l p.1 ∧ sizeAt l p.1 ≤ 4) → 0 ≤ idxR l ps ∧ idxR l ps < 4 ^ ps.length := by
  refine snoc_ind ?_ ?_
  · intro _
    exact ⟨Int.le_refl 0, Int.one_pos⟩
  · intro ps p ih h
    obtain ⟨a, b⟩ := ih fun x hx => h x (List.mem_append_left _ hx)
    obtain ⟨c, d, e⟩ := h p (by simp)
    have e1 : idxR l (ps ++ [p]) = idxR l ps * (sizeAt l p.1 : Int) + p.2 := by
      unfold idxR
      rw [List.foldl_append]
      rfl
    rw [e1, List.length_append, List.length_singleton, Int.pow_succ]
    have h1 : idxR l ps * (sizeAt l p.1 : Int) ≤ idxR l ps * 4 := Int.mul_le_mul_of_nonneg_left (by omega) a
    have h0 : 0 ≤ idxR l ps * (sizeAt l p.1 : Int) := Int.mul_nonneg a (by omega)
    omega
theorem index_by_s {Γ : List Callee} : IndexByS (F_index_by.mng Γ) := by
  intro l cs q r sc hq hr
  have ask := hq.asked sc.sz
  refine (mng_T (P := fun x _ => x = .int (idxR l (q.zip r))) rfl).mpr ?_
  unfold F_index_by dS
  walk_at "hx"
  refine ⟨_, zipD_tI, ?_⟩
  refine loop_T (I := fun i ρ => ∃ o4 o5, ρ = [some (.tuple [tI l, .tuple (cs.map tI)]), some (tI q), some (tI r), some (.int (idxR l ((q.zip r).take i))), o4, o5]) ⟨_, _, rfl⟩ ?_ ?_
  · rintro i x ρ hx ⟨o4, o5, rfl⟩
    rw [List.getElem?_map] at hx
    obtain ⟨p, hp, rfl⟩ := Option.map_eq_some_iff.mp hx
    have hm := List.mem_of_getElem? hp
    obtain ⟨ea, s1, s4⟩ := ask.at (List.of_mem_zip hm).1
    have tk : (q.zip r).take (i + 1) = (q.zip r).take i ++ [p] := by
      rw [List.take_succ, hp]
      rfl
    have e1 : idxR l ((q.zip r).take (i + 1)) = idxR l ((q.zip r).take i) * (sizeAt l p.1 : Int) + p.2 := by
      rw [tk]
      unfold idxR
      rw [List.foldl_append]
      rfl
    obtain ⟨b1, b2⟩ := idxR_bound (l := l) ((q.zip r).take i) fun y hy => by
      have hy' := List.mem_of_mem_take hy
      obtain ⟨_, t1, t4⟩ := ask.at (List.of_mem_zip hy').1
      exact ⟨(hr.bet y hy').1, (hr.bet y hy').2, t4⟩
    refine ⟨_, rfl, ?_⟩
    unfold tI
    walk_at "hx"
    refine ⟨_, ea, ?_⟩
    walk_at "hx"
    refine ⟨bits_of ⟨b1, Int.lt_of_lt_of_le b2 ?_⟩ ⟨by omega, by omega⟩, ?_⟩
    · have len : ((q.zip r).take i).length ≤ 8 := by
        rw [List.length_take, List.length_zip]
        have := hq.len
        omega
      have : (4 : Int) ^ ((q.zip r).take i).length ≤ 4 ^ 8 := by
        have := Nat.pow_le_pow_right (show 0 < 4 by decide) len
        exact_mod_cast this
      exact Int.le_trans this (by decide)
    · rw [e1]
      exact ⟨_, _, rfl⟩
  · rintro ρ ⟨o4, o5, rfl⟩
    rw [List.length_map, List.take_length]
    walk_at "hx"
    exact ⟨rfl, rfl⟩
def RowIndexS (m : Mng) : Prop := ∀ l cs q r, Sce l cs → Qs l.length q → RowOk l q r → T (fun p => p.1 = .int (idxR l (q.zip r))) (m [dS l cs, tI q, tI r])
theorem row_index_s {Γ : List Callee} {c1 c2 c3 c4 : Nat} {m1 m2 m3 m4 : Mng} (g1 : Γ[c1]? = some ⟨[], m1⟩) (h1 : NeedS1 m1) (g2 : Γ[c2]? = some ⟨[], m2⟩) (h2 : NeedQsS m2) (g3 : Γ[c3]? = some ⟨[], m3⟩) (h3 : NeedRowS m3) (g4 : Γ[c4]? = some ⟨[], m4⟩) (h4 : IndexByS m4) : RowIndexS ((F_row_index c1 c2 c3 c4).mng Γ) := by
  intro l cs q r sc hq hr
  refine (mng_T (P := fun x _ => x = .int (idxR l (q.zip r))) rfl).mpr ?_
  unfold F_row_index
  walk_at "hx"
  refine call_0 g1 ((h1 l cs sc).mono fun p _ => ?_)
  walk_at "hx"
  refine call_0 g2 ((h2 l cs q sc hq).mono fun p _ => ?_)
  walk_at "hx"
  refine call_0 g3 ((h3 l cs q r sc hq hr).mono fun p _ => ?_)
  walk_at "hx"
  refine call_0 g4 ((h4 l cs q r sc hq hr).mono fun p hp => ?_)
  exact ⟨rfl, hp⟩
end Hx

set_option Elab.async false
set_option linter.all false
set_option maxRecDepth 100000
set_option maxHeartbeats 4000000
/-! P25: shared questions, parts. -/
namespace Hx
open PySem
local macro_rules | `(tactic| walk_at "hx") => `(tactic| simp only [E_v, E_lit, E_con, E_edct, E_tup, E_lst, E_neg, E_bin, E_cmp, E_chain, E_isN, E_not, E_and, E_or, EAnd_nil, EAnd_cons, EOr_nil, EOr_cons, E_ite, E_call, E_callk, E_bi, E_mkt, E_mkl, E_isa, E_idx, E_sl, E_rev, E_ixof, E_dzip, E_dget, E_comp, E_comp2, E_dcomp2, E_pop, Es_nil, Es_cons, Et_val, Et_not, Et_and, Et_or, ECs_nil, ECs_cons, EDs_nil, EDs_cons, EO_non, EO_som, EI_seq, EI_rng, EI_zip, EI_enm,
  St_asg, St_unp, St_setix, St_aug, St_ex, St_app, St_ext, St_ret, St_if, St_for, St_pas, Ss_nil, Ss_cons, Lit.d, List.getElem?_cons_zero, List.getElem?_cons_succ, List.set_cons_zero, List.set_cons_succ, List.length_cons, List.length_nil, List.map_cons, List.map_nil, List.replicate_succ, List.replicate_zero, List.cons_append, List.nil_append, Option.some.injEq, exists_eq_left', exists_eq_left, PyData.int.injEq, PyData.list.injEq, PyData.tuple.injEq, PyData.bool.injEq, PyData.str.injEq,
  ifB_tt, ifB_ff, ifB_dec, ifB_not, op_add, op_sub, op_mul, op_mod, op_fdiv, op_pow, op_addt, op_addl, cm_lt, cm_le, cm_gt, cm_ge, cm_eq, cm_ne, b_bool, t_bool, bi_len_l, bi_len_t, bi_tuple_l, bi_tuple_t, bi_list_l, bi_list_t, bi_int_i, bi_int_b, bi_absI, ix_list, ix_tuple, at_0, at_1, at_2, at_3, Bool.not_true, Bool.not_false, Nat.reduceSub, Nat.reduceAdd, neg_i, int_i, items_l, items_t, items_ll, exists_const, exists_and_left, ix30, ix31, ix32, own_v, own_tup, wipe_nil, wipe_cons, bindT_v, bindT_tup, setAll_nil, setAll_cons, true_and, and_true])
theorem filter_ints {c : List Int} {f : Int → Bool} : ((c.map PyData.int).filter fun x => f (intV x)).map (fun x => x) = (c.filter f).map .int := by
  rw [List.map_id', List.filter_map]
  rfl
def SharedByS (m : Mng) : Prop := ∀ l cs (i j : Nat) c d, cs[i]? = some c → cs[j]? = some d → c.length ≤ 100 → d.length ≤ 100 → T (fun p => p.1 = tI (c.filter fun k => d.contains k)) (m [dS l cs, .int i, .int j])
theorem shared_by_s {Γ : List Callee} : SharedByS (F_shared_by.mng Γ) := by
  intro l cs i j c d hc hd lc ld
  refine (mng_T (P := fun x _ => x = tI (c.filter fun k => d.contains k)) rfl).mpr ?_
  unfold F_shared_by dS
  walk_at "hx"
  refine ⟨tI c, by rw [at_nat, List.getElem?_map, hc]; rfl, ?_⟩
  refine ⟨_, rfl, ?_⟩
  refine comp_T (fun x => d.contains (intV x)) (fun x => x) (fun x hx => ⟨_, rfl, ?_⟩) (by rw [List.length_map]; unfold lim; omega) ?_
  · obtain ⟨k, hk, rfl⟩ := List.mem_map.mp hx
    walk_at "hx"
    refine ⟨tI d, by rw [at_nat, List.getElem?_map, hd]; rfl, ?_⟩
    unfold tI
    rw [cm_in_t]
    exact ⟨fun h => ⟨h.symm, fun _ => trivial⟩, fun h => ⟨h.symm, fun _ => trivial⟩⟩
  · rw [filter_ints]
    walk_at "hx"
    exact ⟨rfl, rfl⟩
def SharedS (m : Mng) : Prop := ∀ l cs (i j : Nat) c d, Sce l cs → cs[i]? = some c → cs[j]? = some d → T (fun p => p.1 = tI (c.filter fun k => d.contains k)) (m [dS l cs, .int i, .int j])
theorem shared_questions_s {Γ : List Callee} {c1 c2 c3 : Nat} {m1 m2 m3 : Mng} (g1 : Γ[c1]? = some ⟨[], m1⟩) (h1 : NeedS1 m1) (g2 : Γ[c2]? = some ⟨[], m2⟩) (h2 : NeedIndexS m2) (g3 : Γ[c3]? = some ⟨[], m3⟩) (h3 : SharedByS m3) : SharedS ((F_shared_questions c1 c2 c3).mng Γ) := by
  intro l cs i j c d sc hc hd
  have len : ∀ {c : List Int}, c ∈ cs → c.length ≤ 100 := fun hc => by have := (sc.ctx.each _ hc).len; omega
  refine (mng_T (P := fun x _ => x = tI (c.filter fun k => d.contains k)) rfl).mpr ?_
  unfold F_shared_questions
  walk_at "hx"
  refine call_0 g1 ((h1 l cs sc).mono fun p _ => ?_)
  walk_at "hx"
  refine call_0 g2 ((h2 l cs i (List.getElem?_eq_some_iff.mp hc).1).mono fun p _ => ?_)
  walk_at "hx"
  refine call_0 g2 ((h2 l cs j (List.getElem?_eq_some_iff.mp hd).1).mono fun p _ => ?_)
  walk_at "hx"
  refine call_0 g3 ((h3 l cs i j c d hc hd (len (List.mem_of_getElem? hc)) (len (List.mem_of_getElem? hd))).mono fun p hp => ?_)
  exact ⟨rfl, hp⟩
end Hx

set_option Elab.async false
set_option linter.all false
set_option maxRecDepth 100000
set_option maxHeartbeats 4000000
/-! P26: some of the questions, drawn. -/
namespace Hx
open PySem
local macro_rules | `(tactic| walk_at "hx") => `(tactic| simp only [E_v, E_lit, E_con, E_edct, E_tup, E_lst, E_neg, E_bin, E_cmp, E_chain, E_isN, E_not, E_and, E_or, EAnd_nil, EAnd_cons, EOr_nil, EOr_cons, E_ite, E_call, E_callk, E_bi, E_mkt, E_mkl, E_isa, E_idx, E_sl, E_rev, E_ixof, E_dzip, E_dget, E_comp, E_comp2, E_dcomp2, E_pop, Es_nil, Es_cons, Et_val, Et_not, Et_and, Et_or, ECs_nil, ECs_cons, EDs_nil, EDs_cons, EO_non, EO_som, EI_seq, EI_rng, EI_zip, EI_enm,
  St_asg, St_unp, St_setix, St_aug, St_ex, St_app, St_ext, St_ret, St_if, St_for, St_pas, Ss_nil, Ss_cons, Lit.d, List.getElem?_cons_zero, List.getElem?_cons_succ, List.set_cons_zero, List.set_cons_succ, List.length_cons, List.length_nil, List.map_cons, List.map_nil, List.replicate_succ, List.replicate_zero, List.cons_append, List.nil_append, Option.some.injEq, exists_eq_left', exists_eq_left, PyData.int.injEq, PyData.list.injEq, PyData.tuple.injEq, PyData.bool.injEq, PyData.str.injEq,
  ifB_tt, ifB_ff, ifB_dec, ifB_not, op_add, op_sub, op_mul, op_mod, op_fdiv, op_pow, op_addt, op_addl, cm_lt, cm_le, cm_gt, cm_ge, cm_eq, cm_ne, b_bool, t_bool, bi_len_l, bi_len_t, bi_tuple_l, bi_tuple_t, bi_list_l, bi_list_t, bi_int_i, bi_int_b, bi_absI, ix_list, ix_tuple, at_0, at_1, at_2, at_3, Bool.not_true, Bool.not_false, Nat.reduceSub, Nat.reduceAdd, neg_i, int_i, items_l, items_t, items_ll, exists_const, exists_and_left, ix30, ix31, ix32, own_v, own_tup, wipe_nil, wipe_cons, bindT_v, bindT_tup, setAll_nil, setAll_cons, true_and, and_true])
def SomeS (m : Mng) : Prop := ∀ (B : Nat) (d : PyData) (q : List Int), Pot B d → B + 200 ≤ potLim → q.length ≤ 100 → T (fun p => ∃ (s : List Int) (d' : PyData), p.1 = tI s ∧ p.2 = [d'] ∧ s.Sublist q ∧ Pot (B + q.length) d') (m [d, tI q])
theorem some_s {Γ : List Callee} {c : Nat} {m : Mng} (g : Γ[c]? = some ⟨[0], m⟩) (h : TakeS m) : SomeS ((F_law_some c).mng Γ) := by
  intro B d q hp hB hq
  refine (mng_T (P := fun x o => ∃ (s : List Int) (d' : PyData), x = tI s ∧ o = [d'] ∧ s.Sublist q ∧ Pot (B + q.length) d') rfl).mpr ?_
  unfold F_law_some
  walk_at "hx"
  refine ⟨_, rfl, ?_⟩
  refine comp_S (I := fun i acc ρ => ∃ (pd : PyData) (s : List Int) (o2 : Option PyData), ρ = [some pd, some (tI q), o2] ∧ acc = s.map .int ∧ s.Sublist (q.take i) ∧ Pot (B + i) pd) ?_ ?_ ?_
  · exact ⟨d, [], none, rfl, rfl, List.nil_sublist _, hp⟩
  · rintro i x acc ρ hx ⟨pd, s, o2, rfl, rfl, sub, hp⟩
    have hi : i < q.length := by
      have := (List.getElem?_eq_some_iff.mp hx).1
      rwa [List.length_map] at this
    rw [List.getElem?_map] at hx
    obtain ⟨k, hk, rfl⟩ := Option.map_eq_some_iff.mp hx
    have tk : q.take (i + 1) = q.take i ++ [k] := by
      rw [List.take_succ, hk]
      rfl
    refine ⟨_, rfl, ?_⟩
    walk_at "hx"
    refine call_take g h hp (by omega) (by decide) (by decide) rfl rfl fun r d' r0 r1 hp' => ?_
    walk_at "hx"
    have no : ∀ {P : Prop} {a b : Bool}, (a == b) = false → a = b → P := fun h e => by rw [e, beq_self_eq_true] at h; cases h
    refine ⟨fun _ => ⟨fun _ => ?_, no rfl⟩, fun _ => ⟨no rfl, fun _ => ?_⟩⟩
    · exact ⟨d', s ++ [k], _, rfl, by rw [List.map_append]; rfl, by rw [tk]; exact sub.append (List.Sublist.refl _), hp'⟩
    · exact ⟨d', s, _, rfl, rfl, by rw [tk]; exact sub.trans (List.sublist_append_left _ _), hp'⟩
  · rintro acc ρ ⟨pd, s, o2, rfl, rfl, sub, hp⟩
    rw [List.length_map] at sub hp
    rw [List.take_length] at sub
    have := sub.length_le
    refine ⟨by rw [List.length_map]; unfold lim; omega, ?_⟩
    walk_at "hx"
    refine ⟨?_, s, rfl, pd, rfl, sub, hp⟩
    obtain ⟨a, b, c, rfl, _⟩ := hp.ex
    rfl
theorem Qs.sub {n : Int} {q s : List Int} (h : Qs n q) (hs : s.Sublist q) (ha : Hx.asc (s.map .int) = true) : Qs n s := ⟨fun i hi => h.bet i (hs.subset hi), ha, Nat.le_trans hs.length_le h.len⟩
end Hx

set_option Elab.async false
set_option linter.all false
set_option maxRecDepth 100000
set_option maxHeartbeats 4000000
/-! P27: parts checked. -/
namespace Hx
open PySem
local macro_rules | `(tactic| walk_at "hx") => `(tactic| simp only [E_v, E_lit, E_con, E_edct, E_tup, E_lst, E_neg, E_bin, E_cmp, E_chain, E_isN, E_not, E_and, E_or, EAnd_nil, EAnd_cons, EOr_nil, EOr_cons, E_ite, E_call, E_callk, E_bi, E_mkt, E_mkl, E_isa, E_idx, E_sl, E_rev, E_ixof, E_dzip, E_dget, E_comp, E_comp2, E_dcomp2, E_pop, Es_nil, Es_cons, Et_val, Et_not, Et_and, Et_or, ECs_nil, ECs_cons, EDs_nil, EDs_cons, EO_non, EO_som, EI_seq, EI_rng, EI_zip, EI_enm,
  St_asg, St_unp, St_setix, St_aug, St_ex, St_app, St_ext, St_ret, St_if, St_for, St_pas, Ss_nil, Ss_cons, Lit.d, List.getElem?_cons_zero, List.getElem?_cons_succ, List.set_cons_zero, List.set_cons_succ, List.length_cons, List.length_nil, List.map_cons, List.map_nil, List.replicate_succ, List.replicate_zero, List.cons_append, List.nil_append, Option.some.injEq, exists_eq_left', exists_eq_left, PyData.int.injEq, PyData.list.injEq, PyData.tuple.injEq, PyData.bool.injEq, PyData.str.injEq,
  ifB_tt, ifB_ff, ifB_dec, ifB_not, op_add, op_sub, op_mul, op_mod, op_fdiv, op_pow, op_addt, op_addl, cm_lt, cm_le, cm_gt, cm_ge, cm_eq, cm_ne, b_bool, t_bool, bi_len_l, bi_len_t, bi_tuple_l, bi_tuple_t, bi_list_l, bi_list_t, bi_int_i, bi_int_b, bi_absI, ix_list, ix_tuple, at_0, at_1, at_2, at_3, Bool.not_true, Bool.not_false, Nat.reduceSub, Nat.reduceAdd, neg_i, int_i, items_l, items_t, items_ll, exists_const, exists_and_left, ix30, ix31, ix32, own_v, own_tup, wipe_nil, wipe_cons, bindT_v, bindT_tup, setAll_nil, setAll_cons, true_and, and_true])
theorem ints_ascOk : ∀ {s : List Int}, ascOk (s.map .int)
  | [] => trivial
  | [_] => trivial
  | a :: b :: r => ⟨rfl, ints_ascOk (s := b :: r)⟩
def IsPartS (m : Mng) : Prop := ∀ (q s : List Int), q.length ≤ 100 → (∀ i ∈ s, i ∈ q) → s.length ≤ 100 → Hx.asc (s.map .int) = true → T (fun p => p.1 = .bool true) (m [tI q, tI s])
theorem is_part_s {Γ : List Callee} {c1 c2 : Nat} {m1 m2 : Mng} (g1 : Γ[c1]? = some ⟨[], m1⟩) (h1 : IntegerS m1) (g2 : Γ[c2]? = some ⟨[], m2⟩) (h2 : AscS m2) : IsPartS ((F_is_part c1 c2).mng Γ) := by
  intro q s hq hs hl ha
  refine (mng_T (P := fun x _ => x = .bool true) rfl).mpr ?_
  unfold F_is_part
  walk_at "hx"
  rw [show isaD .tuple (tI s) = true from rfl]
  walk_at "hx"
  refine ⟨_, rfl, ?_⟩
  refine comp_M (fun _ => .bool true) (fun x hx => ⟨_, rfl, ?_⟩) (by rw [List.length_map]; unfold lim; omega) ?_
  · obtain ⟨k, hk, rfl⟩ := List.mem_map.mp hx
    walk_at "hx"
    refine call_0 g1 ((h1 (.int k)).mono fun p hp => ?_)
    rw [hp, show isInt (.int k) = true from rfl]
    walk_at "hx"
    unfold tI
    rw [cm_in_t, show q.contains k = true by simpa using hs k hk]
    exact ⟨fun _ => trivial, fun z => by cases z⟩
  · rw [k_all (f := fun _ => true) fun _ _ => rfl]
    rw [List.all_eq_true.mpr fun _ _ => rfl]
    walk_at "hx"
    refine call_0 g2 ((h2 (s.map .int) (by rw [List.length_map]; unfold lim; omega) ?_).mono fun p hp => ?_)
    · exact ints_ascOk
    · rw [ha] at hp
      exact ⟨rfl, hp⟩
def NeedPartS (m : Mng) : Prop := ∀ (q s : List Int), q.length ≤ 100 → (∀ i ∈ s, i ∈ q) → s.length ≤ 100 → Hx.asc (s.map .int) = true → T (fun _ => True) (m [tI q, tI s])
theorem need_part_s {Γ : List Callee} {c : Nat} {m : Mng} (g : Γ[c]? = some ⟨[], m⟩) (h : IsPartS m) : NeedPartS ((F_need_part c).mng Γ) := by
  intro q s hq hs hl ha
  refine (mng_T (P := fun _ _ => True) rfl).mpr ?_
  unfold F_need_part
  walk_at "hx"
  refine call_0 g ((h q s hq hs hl ha).mono fun p hp => ?_)
  rw [hp]
  walk_at "hx"
  trivial
end Hx

set_option Elab.async false
set_option linter.all false
set_option maxRecDepth 100000
set_option maxHeartbeats 4000000
/-! P28: the part of a row. -/
namespace Hx
open PySem
local macro_rules | `(tactic| walk_at "hx") => `(tactic| simp only [E_v, E_lit, E_con, E_edct, E_tup, E_lst, E_neg, E_bin, E_cmp, E_chain, E_isN, E_not, E_and, E_or, EAnd_nil, EAnd_cons, EOr_nil, EOr_cons, E_ite, E_call, E_callk, E_bi, E_mkt, E_mkl, E_isa, E_idx, E_sl, E_rev, E_ixof, E_dzip, E_dget, E_comp, E_comp2, E_dcomp2, E_pop, Es_nil, Es_cons, Et_val, Et_not, Et_and, Et_or, ECs_nil, ECs_cons, EDs_nil, EDs_cons, EO_non, EO_som, EI_seq, EI_rng, EI_zip, EI_enm,
  St_asg, St_unp, St_setix, St_aug, St_ex, St_app, St_ext, St_ret, St_if, St_for, St_pas, Ss_nil, Ss_cons, Lit.d, List.getElem?_cons_zero, List.getElem?_cons_succ, List.set_cons_zero, List.set_cons_succ, List.length_cons, List.length_nil, List.map_cons, List.map_nil, List.replicate_succ, List.replicate_zero, List.cons_append, List.nil_append, Option.some.injEq, exists_eq_left', exists_eq_left, PyData.int.injEq, PyData.list.injEq, PyData.tuple.injEq, PyData.bool.injEq, PyData.str.injEq,
  ifB_tt, ifB_ff, ifB_dec, ifB_not, op_add, op_sub, op_mul, op_mod, op_fdiv, op_pow, op_addt, op_addl, cm_lt, cm_le, cm_gt, cm_ge, cm_eq, cm_ne, b_bool, t_bool, bi_len_l, bi_len_t, bi_tuple_l, bi_tuple_t, bi_list_l, bi_list_t, bi_int_i, bi_int_b, bi_absI, ix_list, ix_tuple, at_0, at_1, at_2, at_3, Bool.not_true, Bool.not_false, Nat.reduceSub, Nat.reduceAdd, neg_i, int_i, items_l, items_t, items_ll, exists_const, exists_and_left, ix30, ix31, ix32, own_v, own_tup, wipe_nil, wipe_cons, bindT_v, bindT_tup, setAll_nil, setAll_cons, true_and, and_true])
theorem pw_asc : ∀ {c : List Int}, Hx.asc (c.map .int) = true → c.Pairwise (· < ·)
  | [], _ => List.Pairwise.nil
  | [a], _ => List.pairwise_singleton _ _
  | a :: b :: r, h => by
    have h' : (ltV (.int a) (.int b) && Hx.asc ((b :: r).map .int)) = true := h
    rw [Bool.and_eq_true, ltV_int, decide_eq_true_eq] at h'
    have ih := pw_asc h'.2
    refine List.pairwise_cons.mpr ⟨fun x hx => ?_, ih⟩
    rcases List.mem_cons.mp hx with e | hx
    · rw [e]; exact h'.1
    · exact Int.lt_trans h'.1 ((List.pairwise_cons.mp ih).1 x hx)
theorem Qs.pw {n : Int} {q : List Int} (h : Qs n q) : q.Pairwise (· < ·) := pw_asc h.asc
theorem Qs.nd {n : Int} {q : List Int} (h : Qs n q) : q.Nodup := h.pw.imp fun h => Int.ne_of_lt h
theorem Qs.part {n : Int} {q s : List Int} (h : Qs n q) (hs : s.Sublist q) : Qs n s := h.sub hs (asc_pw (h.pw.sublist hs))
/-- a dict's pairs of ints -/
def mk2 (ps : List (Int × Int)) : List (PyData × PyData) := ps.map fun p => (.int p.1, .int p.2)
theorem putD_new {kvs : List (PyData × PyData)} {k v : PyData} (h : (kvs.any fun p => PyData.eqv p.1 k) = false) : putD kvs k v = kvs ++ [(k, v)] := by
  unfold putD
  rw [if_neg (by rw [h]; exact Bool.false_ne_true)]
theorem any_mk2 {k : Int} {ps : List (Int × Int)} (h : k ∉ ps.map (·.1)) : ((mk2 ps).any fun p => PyData.eqv p.1 (.int k)) = false := by
  unfold mk2
  rw [List.any_map, List.any_eq_false]
  intro p hp
  show ¬ PyData.eqv (.int p.1) (.int k) = true
  rw [eqv_ints, decide_eq_true_eq]
  exact fun e => h (e ▸ List.mem_map_of_mem (f := (·.1)) hp)
theorem puts_app : ∀ (ps acc : List (Int × Int)), ((acc ++ ps).map (·.1)).Nodup → putsD (mk2 acc) (mk2 ps) = mk2 (acc ++ ps)
  | [], acc, _ => by rw [List.append_nil]; rfl
  | p :: ps, acc, h => by
    show putsD (putD (mk2 acc) (.int p.1) (.int p.2)) (mk2 ps) = _
    have np : p.1 ∉ acc.map (·.1) := by
      rw [List.map_append, List.map_cons] at h
      have := (List.nodup_append.mp h).2.2
      exact fun z => this _ z _ List.mem_cons_self rfl
    rw [putD_new (any_mk2 np), show mk2 acc ++ [(PyData.int p.1, PyData.int p.2)] = mk2 (acc ++ [p]) by unfold mk2; rw [List.map_append]; rfl, puts_app ps (acc ++ [p]) (by rw [List.append_assoc]; exact h), List.append_assoc]
    rfl
theorem pairs_mk2 : ∀ ps : List (Int × Int), pairsOf (ps.map fun p => PyData.tuple [.int p.1, .int p.2]) = some (mk2 ps)
  | [] => rfl
  | p :: ps => by
    show (pairsOf (ps.map fun p => PyData.tuple [.int p.1, .int p.2])).map ((PyData.int p.1, PyData.int p.2) :: ·) = _
    rw [pairs_mk2 ps]
    rfl
theorem dzip_ints {q r : List Int} (nd : q.Nodup) (hl : r.length = q.length) : dzipD (tI q) (tI r) = some (.dict (mk2 (q.zip r))) := by
  show ((pairsOf (zip2 (q.map .int) (r.map .int))).bind fun kvs => if (kvs.all fun p => keyOk p.1) = true then some (PyData.dict (putsD [] kvs)) else none) = _
  rw [zip2_ints, pairs_mk2, Option.bind_some, if_pos (by unfold mk2; rw [List.all_map]; exact List.all_eq_true.mpr fun _ _ => rfl)]
  have := puts_app (q.zip r) [] (by rw [List.nil_append, List.map_fst_zip (by omega)]; exact nd)
  rw [List.nil_append] at this
  rw [show putsD [] (mk2 (q.zip r)) = mk2 (q.zip r) from this]
theorem find_zip {k : Int} : ∀ {q r : List Int}, k ∈ q → r.length = q.length → ((mk2 (q.zip r)).find? fun p => PyData.eqv p.1 (.int k)).map (·.2) = some (.int (r[q.idxOf k]?.getD 0))
  | [], _, h, _ => by cases h
  | a :: q, [], _, h => by simp at h
  | a :: q, b :: r, h, hl => by
    show ((((PyData.int a, PyData.int b) :: mk2 (q.zip r)).find? fun p => PyData.eqv p.1 (.int k)).map (·.2)) = _
    rw [List.find?_cons]
    by_cases e : a = k
    · subst e
      rw [show PyData.eqv (PyData.int a, PyData.int b).1 (.int a) = true from by rw [eqv_ints]; exact decide_eq_true rfl]
      simp [List.idxOf_cons]
    · rw [show PyData.eqv (PyData.int a, PyData.int b).1 (.int k) = false from by rw [eqv_ints]; exact decide_eq_false e]
      have hk : k ∈ q := (List.mem_cons.mp h).resolve_left fun z => e z.symm
      have ih := find_zip hk (by simpa using hl)
      have e2 : (a == k) = false := by simpa using e
      rw [List.idxOf_cons, e2]
      simpa using ih
theorem dget_zip {k : Int} {q r : List Int} (h : k ∈ q) (hl : r.length = q.length) : dgetD (.dict (mk2 (q.zip r))) (.int k) = some (.int (r[q.idxOf k]?.getD 0)) := find_zip h hl
def partI (q r s : List Int) : List Int := s.map fun k => r[q.idxOf k]?.getD 0
def PartByS (m : Mng) : Prop := ∀ q r s : List Int, q.Nodup → r.length = q.length → (∀ i ∈ s, i ∈ q) → s.length ≤ 100 → T (fun p => p.1 = tI (partI q r s)) (m [tI q, tI r, tI s])
theorem part_by_s {Γ : List Callee} : PartByS (F_part_by.mng Γ) := by
  intro q r s nd hl hs ls
  refine (mng_T (P := fun x _ => x = tI (partI q r s)) rfl).mpr ?_
  unfold F_part_by
  walk_at "hx"
  refine ⟨_, dzip_ints nd hl, ?_⟩
  refine ⟨_, rfl, ?_⟩
  refine comp_M (fun x => .int (r[q.idxOf (intV x)]?.getD 0)) (fun x hx => ⟨_, rfl, ?_⟩) (by rw [List.length_map]; unfold lim; omega) ?_
  · obtain ⟨k, hk, rfl⟩ := List.mem_map.mp hx
    walk_at "hx"
    exact ⟨_, dget_zip (hs k hk) hl, rfl⟩
  · walk_at "hx"
    refine ⟨rfl, ?_⟩
    unfold tI partI
    rw [List.map_map, List.map_map]
    rfl
def PartOfS (m : Mng) : Prop := ∀ l cs q r s, Sce l cs → Qs l.length q → RowOk l q r → s.Sublist q → T (fun p => p.1 = tI (partI q r s)) (m [dS l cs, tI q, tI r, tI s])
theorem part_of_s {Γ : List Callee} {c1 c2 c3 c4 c5 : Nat} {m1 m2 m3 m4 m5 : Mng} (g1 : Γ[c1]? = some ⟨[], m1⟩) (h1 : NeedS1 m1) (g2 : Γ[c2]? = some ⟨[], m2⟩) (h2 : NeedQsS m2) (g3 : Γ[c3]? = some ⟨[], m3⟩) (h3 : NeedRowS m3) (g4 : Γ[c4]? = some ⟨[], m4⟩) (h4 : NeedPartS m4) (g5 : Γ[c5]? = some ⟨[], m5⟩) (h5 : PartByS m5) : PartOfS ((F_part_of c1 c2 c3 c4 c5).mng Γ) := by
  intro l cs q r s sc hq hr hs
  have lq := hq.len
  have ls := hs.length_le
  refine (mng_T (P := fun x _ => x = tI (partI q r s)) rfl).mpr ?_
  unfold F_part_of
  walk_at "hx"
  refine call_0 g1 ((h1 l cs sc).mono fun p _ => ?_)
  walk_at "hx"
  refine call_0 g2 ((h2 l cs q sc hq).mono fun p _ => ?_)
  walk_at "hx"
  refine call_0 g3 ((h3 l cs q r sc hq hr).mono fun p _ => ?_)
  walk_at "hx"
  refine call_0 g4 ((h4 q s (by omega) (fun i hi => hs.subset hi) (by omega) (hq.part hs).asc).mono fun p _ => ?_)
  walk_at "hx"
  refine call_0 g5 ((h5 q r s hq.nd hr.len (fun i hi => hs.subset hi) (by omega)).mono fun p hp => ?_)
  exact ⟨rfl, hp⟩
end Hx

set_option Elab.async false
set_option linter.all false
set_option maxRecDepth 100000
set_option maxHeartbeats 4000000
/-! P29: k02: one row asked. -/
namespace Hx
open PySem
local macro_rules | `(tactic| walk_at "hx") => `(tactic| simp only [E_v, E_lit, E_con, E_edct, E_tup, E_lst, E_neg, E_bin, E_cmp, E_chain, E_isN, E_not, E_and, E_or, EAnd_nil, EAnd_cons, EOr_nil, EOr_cons, E_ite, E_call, E_callk, E_bi, E_mkt, E_mkl, E_isa, E_idx, E_sl, E_rev, E_ixof, E_dzip, E_dget, E_comp, E_comp2, E_dcomp2, E_pop, Es_nil, Es_cons, Et_val, Et_not, Et_and, Et_or, ECs_nil, ECs_cons, EDs_nil, EDs_cons, EO_non, EO_som, EI_seq, EI_rng, EI_zip, EI_enm,
  St_asg, St_unp, St_setix, St_aug, St_ex, St_app, St_ext, St_ret, St_if, St_for, St_pas, Ss_nil, Ss_cons, Lit.d, List.getElem?_cons_zero, List.getElem?_cons_succ, List.set_cons_zero, List.set_cons_succ, List.length_cons, List.length_nil, List.map_cons, List.map_nil, List.replicate_succ, List.replicate_zero, List.cons_append, List.nil_append, Option.some.injEq, exists_eq_left', exists_eq_left, PyData.int.injEq, PyData.list.injEq, PyData.tuple.injEq, PyData.bool.injEq, PyData.str.injEq,
  ifB_tt, ifB_ff, ifB_dec, ifB_not, op_add, op_sub, op_mul, op_mod, op_fdiv, op_pow, op_addt, op_addl, cm_lt, cm_le, cm_gt, cm_ge, cm_eq, cm_ne, b_bool, t_bool, bi_len_l, bi_len_t, bi_tuple_l, bi_tuple_t, bi_list_l, bi_list_t, bi_int_i, bi_int_b, bi_absI, ix_list, ix_tuple, at_0, at_1, at_2, at_3, Bool.not_true, Bool.not_false, Nat.reduceSub, Nat.reduceAdd, neg_i, int_i, items_l, items_t, items_ll, exists_const, exists_and_left, ix30, ix31, ix32, own_v, own_tup, wipe_nil, wipe_cons, bindT_v, bindT_tup, setAll_nil, setAll_cons, true_and, and_true])
/-- the rows of some questions can be shown -/
theorem fine_row {l q r : List Int} (h : Asked l q) {j : Nat} (hj : (rowsL l q)[j]? = some r) : (∀ x ∈ r, -8 ≤ x ∧ x ≤ 15) ∧ r.length = q.length := by
  obtain ⟨_, hl, hb⟩ := idx_at q h j r hj
  refine ⟨fun x hx => ?_, hl⟩
  obtain ⟨i, hi, e⟩ := List.mem_iff_getElem.mp hx
  have hz : (q[i]'(by omega), x) ∈ q.zip r := by
    refine List.mem_iff_getElem.mpr ⟨i, by rw [List.length_zip]; omega, ?_⟩
    rw [List.getElem_zip, e]
  have h1 : 0 ≤ x ∧ x < sizeAt l (q[i]'(by omega)) := hb _ hz
  have h2 := (h.at (List.getElem_mem (by omega : i < q.length))).2.2
  omega
theorem RowOk.of {l q r : List Int} (h : Asked l q) {j : Nat} (hj : (rowsL l q)[j]? = some r) : RowOk l q r := by
  obtain ⟨_, hl, hb⟩ := idx_at q h j r hj
  exact ⟨hl, hb⟩
theorem fine_getD {r : List Int} (h : ∀ x ∈ r, -8 ≤ x ∧ x ≤ 15) (i : Nat) : -8 ≤ r[i]?.getD 0 ∧ r[i]?.getD 0 ≤ 15 := by
  cases e : r[i]? with
  | none => exact ⟨by decide, by decide⟩
  | some x => exact h x (List.mem_of_getElem? e)
theorem partI_small {q r s : List Int} (h : ∀ x ∈ r, -8 ≤ x ∧ x ≤ 15) : ∀ x ∈ partI q r s, -8 ≤ x ∧ x ≤ 15 := fun x hx => by
  obtain ⟨k, _, rfl⟩ := List.mem_map.mp hx
  exact fine_getD h _
theorem ixof_tI {q : List Int} {k : Int} (h : k ∈ q) : ixofD (q.map .int) (.int k) = some ((q.idxOf k : Nat) : Int) := by
  have e : intsOf (q.map .int) = some q := by
    have := ints_map (f := fun x : Int => x) (g := PyData.int) (l := q) fun _ _ => rfl
    rwa [List.map_id'] at this
  show ((intsOf (q.map .int)).bind fun ns => if k ∈ ns then some ((ns.idxOf k : Nat) : Int) else none) = _
  rw [e, Option.bind_some, if_pos h]
theorem at_map_tI {rows : List (List Int)} {j : Nat} {r : List Int} (h : rows[j]? = some r) : L2.atI (rows.map tI) (j : Int) = some (tI r) := by
  rw [at_nat, List.getElem?_map, h]
  rfl
theorem repr_tI {l : List Int} (h : ∀ x ∈ l, -8 ≤ x ∧ x ≤ 15) (hl : l.length ≤ 1000) {P : PyData → Prop} : biX .repr [tI l] P ↔ P (.str (tI l).shown) := ((both_tI h).odd).repr (by decide) (by omega)
theorem repr_int {i : Int} (h : i.natAbs < 10 ^ 12) {P : PyData → Prop} : biX .repr [.int i] P ↔ P (.str (PyData.int i).shown) := ((fine_int (b := true) h).mono (Nat.zero_le 60) (Nat.le_refl _)).repr (by decide)
/-- equal ones are not different -/
theorem cm_ne_self {x : Str} {Q : Bool → Prop} : cmX .ne (.str x) (.str x) Q ↔ Q false := by rw [cm_ne_str, beq_self_eq_true]; rfl
def atBody (c_law_some c_row_index c_part_of : Nat) : ISs := (.cons (.asg 11 (.call c_law_some (.cons (.v 0) (.cons (.v 4) .nil))))
   (.cons (.asg 12 (.bi .tuple (.cons (.comp (.v 13) (.seq (.v 11)) .nil (.idx (.idx (.v 9) (.v 10)) (.ixof (.v 4) (.v 13)))) .nil)))
   (.cons (.ite (.val (.cmp .ne (.bi .repr (.cons (.call c_row_index (.cons (.v 1) (.cons (.v 4) (.cons (.idx (.v 9) (.v 10)) .nil)))) .nil)) (.bi .repr (.cons (.v 10) .nil))))
    (.cons (.ret (.lit (.bl false)))
    .nil)
    .nil)
   (.cons (.ite (.val (.cmp .ne (.bi .repr (.cons (.call c_part_of (.cons (.v 1) (.cons (.v 4) (.cons (.idx (.v 9) (.v 10)) (.cons (.v 11) .nil))))) .nil)) (.bi .repr (.cons (.v 12) .nil))))
    (.cons (.ret (.lit (.bl false)))
    .nil)
    .nil)
   .nil))))
theorem at_body {Γ : List Callee} {c1 c2 c3 : Nat} {m1 m2 m3 : Mng} (g1 : Γ[c1]? = some ⟨[0], m1⟩) (h1 : SomeS m1) (g2 : Γ[c2]? = some ⟨[], m2⟩) (h2 : RowIndexS m2) (g3 : Γ[c3]? = some ⟨[], m3⟩) (h3 : PartOfS m3)
    {B j : Nat} {pd : PyData} {l q r : List Int} {cs : List (List Int)} {a2 a3 a5 a6 a7 a8 a11 a12 a13 : Option PyData} {N : Env → Prop} {R : PyData → Env → Prop} (sc : Sce l cs) (hq : Qs l.length q) (hp : Pot B pd) (hB : B + 1000 ≤ potLim) (hj : (rowsL l q)[j]? = some r)
    (hN : ∀ pd' b11 b12, Pot (B + 8) pd' → N [some pd', some (dS l cs), a2, a3, some (tI q), a5, a6, a7, a8, some (.list ((rowsL l q).map tI)), some (.int j), b11, b12, a13]) :
    Ss Γ (atBody c1 c2 c3) [some pd, some (dS l cs), a2, a3, some (tI q), a5, a6, a7, a8, some (.list ((rowsL l q).map tI)), some (.int j), a11, a12, a13] N R := by
  have lq := hq.len
  have as := hq.asked sc.sz
  obtain ⟨fr, lr⟩ := fine_row as hj
  have ro := RowOk.of as hj
  unfold atBody
  walk_at "hx"
  refine call_1 g1 rfl rfl ((h1 B pd q hp (by omega) (by omega)).mono fun p hp1 => ?_)
  obtain ⟨s, d', e1, e2, sub, hp'⟩ := hp1
  have ls := sub.length_le
  refine ⟨d', e2, ?_⟩
  rw [e1]
  walk_at "hx"
  refine ⟨_, rfl, ?_⟩
  refine comp_M (fun x => .int (r[q.idxOf (intV x)]?.getD 0)) (fun x hx => ⟨_, rfl, ?_⟩) (by rw [List.length_map]; unfold lim; omega) ?_
  · obtain ⟨k, hk, rfl⟩ := List.mem_map.mp hx
    have hk := sub.subset hk
    walk_at "hx"
    refine ⟨tI r, at_map_tI hj, ?_⟩
    unfold tI
    refine ⟨_, rfl, ?_⟩
    refine ⟨_, ixof_tI hk, ?_⟩
    rw [ix_tuple, at_nat, List.getElem?_map]
    have hi : q.idxOf k < r.length := by rw [lr]; exact List.idxOf_lt_length_iff.mpr hk
    rw [List.getElem?_eq_getElem hi]
    refine ⟨_, rfl, ?_⟩
    show _ = PyData.int (r[q.idxOf k]?.getD 0)
    rw [List.getElem?_eq_getElem hi]
    rfl
  have e3 : (PyData.tuple (List.map (fun x => PyData.int (r[q.idxOf (intV x)]?.getD 0)) (s.map .int))) = tI (partI q r s) := by
    unfold tI partI
    rw [List.map_map, List.map_map]
    rfl
  walk_at "hx"
  rw [e3]
  refine ⟨tI r, at_map_tI hj, ?_⟩
  refine call_0 g2 ((h2 l cs q r sc hq ro).mono fun p hp2 => ?_)
  rw [hp2, (idx_at q as j r hj).1]
  have jb : ((j : Int)).natAbs < 10 ^ 12 := by
    have := (List.getElem?_eq_some_iff.mp hj).1
    have := rowsL_lim as
    omega
  rw [repr_int jb]
  walk_at "hx"
  rw [repr_int jb, cm_ne_self]
  walk_at "hx"
  refine ⟨tI r, at_map_tI hj, ?_⟩
  refine call_0 g3 ((h3 l cs q r s sc hq ro sub).mono fun p hp3 => ?_)
  rw [hp3, repr_tI (partI_small fr) (by unfold partI; rw [List.length_map]; omega)]
  walk_at "hx"
  rw [repr_tI (partI_small fr) (by unfold partI; rw [List.length_map]; omega), cm_ne_self]
  walk_at "hx"
  exact hN d' _ _ (hp'.mono (by omega))
end Hx

set_option Elab.async false
set_option linter.all false
set_option maxRecDepth 100000
set_option maxHeartbeats 4000000
/-! P30: how many rows there are; the questions as a whole. -/
namespace Hx
open PySem
local macro_rules | `(tactic| walk_at "hx") => `(tactic| simp only [E_v, E_lit, E_con, E_edct, E_tup, E_lst, E_neg, E_bin, E_cmp, E_chain, E_isN, E_not, E_and, E_or, EAnd_nil, EAnd_cons, EOr_nil, EOr_cons, E_ite, E_call, E_callk, E_bi, E_mkt, E_mkl, E_isa, E_idx, E_sl, E_rev, E_ixof, E_dzip, E_dget, E_comp, E_comp2, E_dcomp2, E_pop, Es_nil, Es_cons, Et_val, Et_not, Et_and, Et_or, ECs_nil, ECs_cons, EDs_nil, EDs_cons, EO_non, EO_som, EI_seq, EI_rng, EI_zip, EI_enm,
  St_asg, St_unp, St_setix, St_aug, St_ex, St_app, St_ext, St_ret, St_if, St_for, St_pas, Ss_nil, Ss_cons, Lit.d, List.getElem?_cons_zero, List.getElem?_cons_succ, List.set_cons_zero, List.set_cons_succ, List.length_cons, List.length_nil, List.map_cons, List.map_nil, List.replicate_succ, List.replicate_zero, List.cons_append, List.nil_append, Option.some.injEq, exists_eq_left', exists_eq_left, PyData.int.injEq, PyData.list.injEq, PyData.tuple.injEq, PyData.bool.injEq, PyData.str.injEq,
  ifB_tt, ifB_ff, ifB_dec, ifB_not, op_add, op_sub, op_mul, op_mod, op_fdiv, op_pow, op_addt, op_addl, cm_lt, cm_le, cm_gt, cm_ge, cm_eq, cm_ne, b_bool, t_bool, bi_len_l, bi_len_t, bi_tuple_l, bi_tuple_t, bi_list_l, bi_list_t, bi_int_i, bi_int_b, bi_absI, ix_list, ix_tuple, at_0, at_1, at_2, at_3, Bool.not_true, Bool.not_false, Nat.reduceSub, Nat.reduceAdd, neg_i, int_i, items_l, items_t, items_ll, exists_const, exists_and_left, ix30, ix31, ix32, own_v, own_tup, wipe_nil, wipe_cons, bindT_v, bindT_tup, setAll_nil, setAll_cons, true_and, and_true])
def prodN (xs : List Nat) : Nat := xs.foldr (· * ·) 1
theorem rows_prod {l : List Int} : ∀ (q : List Int) (rows : List (List Int)), (q.foldl (longer l) rows).length = rows.length * prodN (q.map (sizeAt l))
  | [], rows => by simp [prodN]
  | k :: q, rows => by
    rw [List.foldl_cons, rows_prod q, longer_len, List.map_cons]
    show _ = rows.length * (sizeAt l k * prodN (q.map (sizeAt l)))
    rw [Nat.mul_assoc]
theorem rowsL_prod {l q : List Int} : (rowsL l q).length = prodN (q.map (sizeAt l)) := by
  unfold rowsL
  rw [rows_prod]
  simp
theorem prodN_pos : ∀ {t : List Nat}, (∀ x ∈ t, 1 ≤ x) → 1 ≤ prodN t
  | [], _ => Nat.le_refl _
  | x :: t, h => Nat.mul_le_mul (h x List.mem_cons_self) (prodN_pos fun y hy => h y (List.mem_cons_of_mem _ hy))
theorem prodN_sub {s t : List Nat} (hs : s.Sublist t) : (∀ x ∈ t, 1 ≤ x) → prodN s ≤ prodN t := by
  induction hs with
  | slnil => exact fun _ => Nat.le_refl _
  | cons a _ ih =>
    intro h
    have := ih fun x hx => h x (List.mem_cons_of_mem _ hx)
    show _ ≤ a * _
    calc _ ≤ 1 * _ := by rw [Nat.one_mul]; exact this
      _ ≤ _ := Nat.mul_le_mul_right _ (h a List.mem_cons_self)
  | cons_cons a _ ih =>
    intro h
    exact Nat.mul_le_mul_left a (ih fun x hx => h x (List.mem_cons_of_mem _ hx))
theorem prodI_N : ∀ {l : List Int}, (∀ s ∈ l, 0 ≤ s) → ∀ a : Int, l.foldl (· * ·) a = a * (prodN (l.map Int.toNat) : Nat)
  | [], _, a => by simp [prodN]
  | s :: l, h, a => by
    rw [List.foldl_cons, prodI_N (fun x hx => h x (List.mem_cons_of_mem _ hx))]
    have := h s List.mem_cons_self
    show _ = a * ((s.toNat * prodN (l.map Int.toNat) : Nat) : Int)
    rw [Int.natCast_mul, Int.toNat_of_nonneg this, Int.mul_assoc]
def wholeI (n : Nat) : List Int := (List.range n).map fun i : Nat => (i : Int)
theorem whole_sizes {l : List Int} : (wholeI l.length).map (sizeAt l) = l.map Int.toNat := by
  refine List.ext_getElem (by simp [wholeI]) fun i h1 h2 => ?_
  have hi : i < l.length := by simpa using h2
  simp [wholeI, sizeAt, hi]
theorem sub_whole : ∀ {n : Nat} {q : List Int}, q.Pairwise (· < ·) → (∀ i ∈ q, 0 ≤ i ∧ i < n) → q.Sublist (wholeI n)
  | 0, q, _, h => by
    cases q with
    | nil => exact List.nil_sublist _
    | cons a q => have := h a List.mem_cons_self; omega
  | n + 1, q, pw, h => by
    have e : wholeI (n + 1) = wholeI n ++ [(n : Int)] := by
      unfold wholeI
      rw [List.range_succ, List.map_append]
      rfl
    rw [e]
    rcases List.eq_nil_or_concat q with rfl | ⟨q', x, rfl⟩
    · exact List.nil_sublist _
    · rw [List.concat_eq_append] at pw h ⊢
      obtain ⟨p1, _, p3⟩ := List.pairwise_append.mp pw
      have hx := h x (by simp)
      by_cases ex : x = n
      · subst ex
        exact (sub_whole p1 fun i hi => ⟨(h i (by simp [hi])).1, p3 i hi n (by simp)⟩).append (List.Sublist.refl _)
      · refine (sub_whole pw fun i hi => ⟨(h i hi).1, ?_⟩).trans (List.sublist_append_left _ _)
        rcases List.mem_append.mp hi with z | z
        · have := p3 i z x (by simp)
          omega
        · rw [List.mem_singleton.mp z]
          omega
theorem Qs.whole {n : Nat} {q : List Int} (h : Qs n q) : q.Sublist (wholeI n) := sub_whole h.pw h.bet
theorem whole_pw (n : Nat) : (wholeI n).Pairwise (· < ·) := by
  unfold wholeI
  rw [List.pairwise_map]
  exact List.pairwise_lt_range.imp fun h => Int.ofNat_lt.mpr h
theorem whole_qs {n : Nat} (h : n ≤ 8) : Qs n (wholeI n) := by
  refine ⟨fun i hi => ?_, asc_pw (whole_pw n), by simpa [wholeI] using h⟩
  unfold wholeI at hi
  obtain ⟨j, hj, rfl⟩ := List.mem_map.mp hi
  have := List.mem_range.mp hj
  omega
theorem Sce.prod {l : List Int} {cs : List (List Int)} (h : Sce l cs) : prodI l ≤ 256 := by
  have k : (isSizes (tI l) && (decide (1 ≤ (cs.map tI).length ∧ (cs.map tI).length ≤ 28) && (cs.map tI).all (isCtx (l.map PyData.int).length) && Hx.asc (cs.map tI) && decide ((putsD [] ((allQs (cs.map tI)).map fun q => (PyData.int q, PyData.bool true))).length = (l.map PyData.int).length))) = true := h.ok
  rw [Bool.and_eq_true] at k
  have k1 : (decide (1 ≤ (l.map PyData.int).length ∧ (l.map PyData.int).length ≤ 8) && allBet 2 4 (l.map .int) && decide (prodI ((l.map PyData.int).map intV) ≤ 256)) = true := k.1
  rw [Bool.and_eq_true, map_intV] at k1
  exact of_decide_eq_true k1.2
theorem whole_rows {l : List Int} (h : ∀ s ∈ l, 2 ≤ s ∧ s ≤ 4) : ((rowsL l (wholeI l.length)).length : Int) = prodI l := by
  rw [rowsL_prod, whole_sizes]
  unfold prodI
  rw [prodI_N (fun s hs => by have := h s hs; omega), Int.one_mul]
theorem few_rows {l q : List Int} {cs : List (List Int)} (sc : Sce l cs) (hq : Qs l.length q) : (rowsL l q).length ≤ 256 := by
  have h1 : (rowsL l q).length ≤ (rowsL l (wholeI l.length)).length := by
    rw [rowsL_prod, rowsL_prod]
    refine prodN_sub (hq.whole.map _) fun x hx => ?_
    rw [whole_sizes] at hx
    obtain ⟨s, hs, rfl⟩ := List.mem_map.mp hx
    have := sc.sz s hs
    omega
  have h2 := whole_rows sc.sz
  have h3 := sc.prod
  omega
theorem rows_fine {l q : List Int} {cs : List (List Int)} (sc : Sce l cs) (hq : Qs l.length q) : Both 2 10496 (.tuple ((rowsL l q).map tI)) := by
  refine (both_tup (w := 40) (n := 256) (fun x hx => ?_) (by rw [List.length_map]; exact few_rows sc hq))
  obtain ⟨r, hr, rfl⟩ := List.mem_map.mp hx
  obtain ⟨j, hj⟩ := List.mem_iff_getElem?.mp hr
  obtain ⟨f1, f2⟩ := fine_row (hq.asked sc.sz) hj
  have := hq.len
  exact (both_tI f1).mono (Nat.le_refl _) (by omega)
theorem bi_len_tI {l : List Int} {P : PyData → Prop} : biX .len [tI l] P ↔ P (.int l.length) := by
  unfold tI
  rw [bi_len_t, List.length_map]
theorem whole_tI {n : Nat} : PyData.tuple ((List.range n).map fun i : Nat => .int (i : Int)) = tI (wholeI n) := by
  unfold tI wholeI
  rw [List.map_map]
  rfl
theorem Sce.qs {l : List Int} {cs : List (List Int)} (sc : Sce l cs) {c : List Int} (h : c ∈ cs) : Qs l.length c := (sc.ctx.each c h).qs (by decide)
theorem qs_small {n : Nat} {q : List Int} (hn : n ≤ 8) (h : Qs n q) : ∀ x ∈ q, -8 ≤ x ∧ x ≤ 15 := fun x hx => by
  have := h.bet x hx
  omega
end Hx

set_option Elab.async false
set_option linter.all false
set_option maxRecDepth 100000
set_option maxHeartbeats 4000000
/-! P31: k02: some questions asked. -/
namespace Hx
open PySem
local macro_rules | `(tactic| walk_at "hx") => `(tactic| simp only [E_v, E_lit, E_con, E_edct, E_tup, E_lst, E_neg, E_bin, E_cmp, E_chain, E_isN, E_not, E_and, E_or, EAnd_nil, EAnd_cons, EOr_nil, EOr_cons, E_ite, E_call, E_callk, E_bi, E_mkt, E_mkl, E_isa, E_idx, E_sl, E_rev, E_ixof, E_dzip, E_dget, E_comp, E_comp2, E_dcomp2, E_pop, Es_nil, Es_cons, Et_val, Et_not, Et_and, Et_or, ECs_nil, ECs_cons, EDs_nil, EDs_cons, EO_non, EO_som, EI_seq, EI_rng, EI_zip, EI_enm,
  St_asg, St_unp, St_setix, St_aug, St_ex, St_app, St_ext, St_ret, St_if, St_for, St_pas, Ss_nil, Ss_cons, Lit.d, List.getElem?_cons_zero, List.getElem?_cons_succ, List.set_cons_zero, List.set_cons_succ, List.length_cons, List.length_nil, List.map_cons, List.map_nil, List.replicate_succ, List.replicate_zero, List.cons_append, List.nil_append, Option.some.injEq, exists_eq_left', exists_eq_left, PyData.int.injEq, PyData.list.injEq, PyData.tuple.injEq, PyData.bool.injEq, PyData.str.injEq,
  ifB_tt, ifB_ff, ifB_dec, ifB_not, op_add, op_sub, op_mul, op_mod, op_fdiv, op_pow, op_addt, op_addl, cm_lt, cm_le, cm_gt, cm_ge, cm_eq, cm_ne, b_bool, t_bool, bi_len_l, bi_len_t, bi_tuple_l, bi_tuple_t, bi_list_l, bi_list_t, bi_int_i, bi_int_b, bi_absI, ix_list, ix_tuple, at_0, at_1, at_2, at_3, Bool.not_true, Bool.not_false, Nat.reduceSub, Nat.reduceAdd, neg_i, int_i, items_l, items_t, items_ll, exists_const, exists_and_left, ix30, ix31, ix32, own_v, own_tup, wipe_nil, wipe_cons, bindT_v, bindT_tup, setAll_nil, setAll_cons, true_and, and_true])
def askedBody (c_law_rows c_rows_of c_law_take c_law_some c_row_index c_part_of : Nat) : ISs := (.cons (.asg 9 (.call c_law_rows (.cons (.v 5) (.cons (.v 4) .nil))))
  (.cons (.ite (.val (.cmp .ne (.bi .repr (.cons (.call c_rows_of (.cons (.v 1) (.cons (.v 4) .nil))) .nil)) (.bi .repr (.cons (.bi .tuple (.cons (.v 9) .nil)) .nil))))
   (.cons (.ret (.lit (.bl false)))
   .nil)
   .nil)
  (.cons (.for_ [0] (.v 10) (.seq (.lst (.cons (.lit (.int 0)) (.cons (.bin .sub (.bi .len (.cons (.v 9) .nil)) (.lit (.int 1))) (.cons (.call c_law_take (.cons (.v 0) (.cons (.bi .len (.cons (.v 9) .nil)) .nil))) (.cons (.call c_law_take (.cons (.v 0) (.cons (.bi .len (.cons (.v 9) .nil)) .nil))) .nil))))))
   (atBody c_law_some c_row_index c_part_of))
  .nil)))
theorem asked_body {Γ : List Callee} {c1 c2 c3 c4 c5 c6 : Nat} {m1 m2 m3 m4 m5 m6 : Mng} (g1 : Γ[c1]? = some ⟨[], m1⟩) (h1 : RowsS m1) (g2 : Γ[c2]? = some ⟨[], m2⟩) (h2 : RowsOfS m2) (g3 : Γ[c3]? = some ⟨[0], m3⟩) (h3 : TakeS m3) (g4 : Γ[c4]? = some ⟨[0], m4⟩) (h4 : SomeS m4) (g5 : Γ[c5]? = some ⟨[], m5⟩) (h5 : RowIndexS m5) (g6 : Γ[c6]? = some ⟨[], m6⟩) (h6 : PartOfS m6)
    {B : Nat} {pd : PyData} {l q : List Int} {cs : List (List Int)} {a2 a3 a6 a7 a8 a9 a10 a11 a12 a13 : Option PyData} {N : Env → Prop} {R : PyData → Env → Prop} (sc : Sce l cs) (hq : Qs l.length q) (hp : Pot B pd) (hB : B + 2000 ≤ potLim)
    (hN : ∀ pd' b9 b10 b11 b12 b13, Pot (B + 50) pd' → N [some pd', some (dS l cs), a2, a3, some (tI q), some (tI l), a6, a7, a8, b9, b10, b11, b12, b13]) :
    Ss Γ (askedBody c1 c2 c3 c4 c5 c6) [some pd, some (dS l cs), a2, a3, some (tI q), some (tI l), a6, a7, a8, a9, a10, a11, a12, a13] N R := by
  have as := hq.asked sc.sz
  have few := few_rows sc hq
  have one := (rowsL_len as).2
  unfold askedBody
  walk_at "hx"
  refine call_0 g1 ((h1 l q as).mono fun p hp1 => ?_)
  rw [hp1]
  walk_at "hx"
  refine call_0 g2 ((h2 l cs q sc hq).mono fun p hp2 => ?_)
  rw [hp2, (rows_fine sc hq).odd.repr (by decide) (by decide)]
  walk_at "hx"
  rw [(rows_fine sc hq).odd.repr (by decide) (by decide), cm_ne_self]
  walk_at "hx"
  rw [List.length_map]
  refine call_take g3 h3 hp (by omega) (by omega) (by omega) rfl rfl fun r1 d1 p1 q1 hp1 => ?_
  walk_at "hx"
  rw [List.length_map]
  refine call_take g3 h3 hp1 (by omega) (by omega) (by omega) rfl rfl fun r2 d2 p2 q2 hp2 => ?_
  walk_at "hx"
  refine loop_T (I := fun i ρ => ∃ pd' b10 b11 b12, ρ = [some pd', some (dS l cs), a2, a3, some (tI q), some (tI l), a6, a7, a8, some (.list ((rowsL l q).map tI)), b10, b11, b12, a13] ∧ Pot (B + 2 + 8 * i) pd' ∧ i ≤ 4) ?_ ?_ ?_
  · exact ⟨d2, _, _, _, rfl, hp2.mono (by omega), Nat.zero_le _⟩
  · rintro i x ρ hx ⟨pd', b10, b11, b12, rfl, hp', hi⟩
    have hi4 : i < 4 := (List.getElem?_eq_some_iff.mp hx).1
    have hm := List.mem_of_getElem? hx
    have : ∃ j : Nat, x = .int (j : Int) ∧ j < (rowsL l q).length := by
      simp only [List.mem_cons, List.not_mem_nil, or_false] at hm
      rcases hm with rfl | rfl | rfl | rfl
      · exact ⟨0, rfl, one⟩
      · exact ⟨(rowsL l q).length - 1, by congr 1; omega, by omega⟩
      · exact ⟨r1.toNat, by congr 1; omega, by omega⟩
      · exact ⟨r2.toNat, by congr 1; omega, by omega⟩
    obtain ⟨j, rfl, hj⟩ := this
    refine ⟨_, rfl, ?_⟩
    refine at_body g4 h4 g5 h5 g6 h6 sc hq hp' (by omega) (List.getElem?_eq_getElem hj) fun pd2 b1 b2 hp2 => ?_
    exact ⟨pd2, _, _, _, rfl, hp2.mono (by omega), by omega⟩
  · rintro ρ ⟨pd', b10, b11, b12, rfl, hp', hi⟩
    exact hN pd' _ _ _ _ _ (hp'.mono (by simp only [List.length_cons, List.length_nil]; omega))
def RightS (m : Mng) : Prop := ∀ (B : Nat) (d : PyData) (l : List Int) (cs : List (List Int)), Sce l cs → Pot B d → B + 5000 ≤ potLim → T (fun p => p.1 = .bool true ∧ ∃ d', p.2 = [d'] ∧ Pot (B + 300) d') (m [d, dS l cs])
theorem right_s {Γ : List Callee} {c1 c2 c3 c4 c5 c6 c7 c8 c9 : Nat} {m1 m2 m3 m4 m5 m6 m7 m8 m9 : Mng} (g1 : Γ[c1]? = some ⟨[], m1⟩) (h1 : FullSizeS m1) (g2 : Γ[c2]? = some ⟨[], m2⟩) (h2 : RowsS m2) (g3 : Γ[c3]? = some ⟨[0], m3⟩) (h3 : TakeS m3) (g4 : Γ[c4]? = some ⟨[], m4⟩) (h4 : ContextAtS m4) (g5 : Γ[c5]? = some ⟨[], m5⟩) (h5 : SharedS m5)
    (g6 : Γ[c6]? = some ⟨[0], m6⟩) (h6 : SomeS m6) (g7 : Γ[c7]? = some ⟨[], m7⟩) (h7 : RowsOfS m7) (g8 : Γ[c8]? = some ⟨[], m8⟩) (h8 : RowIndexS m8) (g9 : Γ[c9]? = some ⟨[], m9⟩) (h9 : PartOfS m9) : RightS ((F_law_right c1 c2 c3 c4 c5 c6 c7 c8 c9).mng Γ) := by
  intro B d l cs sc hp hB
  have l8 := sc.l8
  have c1' := sc.c1
  have c28 := sc.c28
  have wq := whole_qs l8
  refine (mng_T (P := fun x o => x = .bool true ∧ ∃ d', o = [d'] ∧ Pot (B + 300) d') rfl).mpr ?_
  unfold F_law_right dS
  walk_at "hx"
  rw [bi_len_tI]
  rw [rng_1 (by omega)]
  refine ⟨_, rfl, ?_⟩
  rw [whole_tI]
  refine call_0 g1 ((h1 l cs sc).mono fun p hp1 => ?_)
  have pb : (prodI l).natAbs < 10 ^ 12 := by
    have := sc.prod
    have := whole_rows sc.sz
    omega
  rw [hp1, repr_int pb]
  walk_at "hx"
  refine call_0 g2 ((h2 l _ (wq.asked sc.sz)).mono fun p hp2 => ?_)
  rw [hp2, bi_len_l, List.length_map, whole_rows sc.sz, repr_int pb, cm_ne_self]
  walk_at "hx"
  rw [List.length_map]
  refine call_take g3 h3 hp (by omega) (by omega) (by omega) rfl rfl fun r1 d1 p1 q1 hp1 => ?_
  walk_at "hx"
  rw [List.length_map]
  refine call_take g3 h3 hp1 (by omega) (by omega) (by omega) rfl rfl fun r2 d2 p2 q2 hp2 => ?_
  walk_at "hx"
  obtain ⟨i, rfl⟩ := Int.eq_ofNat_of_zero_le p1
  obtain ⟨j, rfl⟩ := Int.eq_ofNat_of_zero_le p2
  have hi : i < cs.length := by omega
  have hj : j < cs.length := by omega
  have ei := List.getElem?_eq_getElem hi
  have ej := List.getElem?_eq_getElem hj
  generalize cs[i] = c at ei
  generalize cs[j] = e at ej
  have qc := sc.qs (List.mem_of_getElem? ei)
  have qe := sc.qs (List.mem_of_getElem? ej)
  have lc := qc.len
  refine call_0 g4 ((h4 l cs i c sc ei).mono fun p hp3 => ?_)
  rw [hp3, repr_tI (qs_small l8 qc) (by omega)]
  walk_at "hx"
  refine ⟨tI c, at_map_tI ei, ?_⟩
  rw [repr_tI (qs_small l8 qc) (by omega), cm_ne_self]
  walk_at "hx"
  refine ⟨tI c, at_map_tI ei, ?_⟩
  refine ⟨_, rfl, ?_⟩
  refine comp_T (fun x => e.contains (intV x)) (fun x => x) (fun x hx => ⟨_, rfl, ?_⟩) (by rw [List.length_map]; unfold lim; omega) ?_
  · obtain ⟨k, hk, rfl⟩ := List.mem_map.mp hx
    walk_at "hx"
    refine ⟨tI e, at_map_tI ej, ?_⟩
    unfold tI
    rw [cm_in_t]
    exact ⟨fun h => ⟨h.symm, fun _ => trivial⟩, fun h => ⟨h.symm, fun _ => trivial⟩⟩
  rw [filter_ints]
  walk_at "hx"
  have fs : (c.filter fun k => e.contains k).Sublist c := List.filter_sublist
  have fl := fs.length_le
  have fq := qs_small l8 (qc.part fs)
  refine call_0 g5 ((h5 l cs i j c e sc ei ej).mono fun p hp4 => ?_)
  rw [hp4, repr_tI fq (by omega)]
  walk_at "hx"
  rw [show PyData.tuple ((c.filter fun k => e.contains k).map .int) = tI (c.filter fun k => e.contains k) from rfl, repr_tI fq (by omega), cm_ne_self]
  walk_at "hx"
  refine call_1 g6 rfl rfl ((h6 _ d2 (wholeI l.length) hp2 (by omega) (by have := wq.len; omega)).mono fun p hp5 => ?_)
  obtain ⟨s, d3, e1, e2, sub, hp3⟩ := hp5
  refine ⟨d3, e2, ?_⟩
  rw [e1]
  walk_at "hx"
  refine ⟨tI c, at_map_tI ei, ?_⟩
  have lw : (wholeI l.length).length ≤ 8 := wq.len
  refine loop_T (I := fun n ρ => ∃ pd' b4 b9 b10 b11 b12 b13, ρ = [some pd', some (dS l cs), some (tI (wholeI l.length)), some (tI (c.filter fun k => e.contains k)), b4, some (tI l), some (.tuple (cs.map tI)), some (.int i), some (.int j), b9, b10, b11, b12, b13] ∧ Pot (B + 20 + 50 * n) pd' ∧ n ≤ 3) ?_ ?_ ?_
  · exact ⟨d3, _, _, _, _, _, _, rfl, hp3.mono (by omega), Nat.zero_le _⟩
  · rintro n x ρ hx ⟨pd', b4, b9, b10, b11, b12, b13, rfl, hp', hn⟩
    have hn3 : n < 3 := (List.getElem?_eq_some_iff.mp hx).1
    have hm := List.mem_of_getElem? hx
    have : ∃ q : List Int, x = tI q ∧ Qs l.length q := by
      simp only [List.mem_cons, List.not_mem_nil, or_false] at hm
      rcases hm with rfl | rfl | rfl
      · exact ⟨s, rfl, wq.part sub⟩
      · exact ⟨c, rfl, qc⟩
      · exact ⟨[], rfl, Qs.nil⟩
    obtain ⟨q, rfl, hq⟩ := this
    refine ⟨_, rfl, ?_⟩
    refine asked_body g2 h2 g7 h7 g3 h3 g6 h6 g8 h8 g9 h9 sc hq hp' (by omega) fun pd2 b1 b2 b3 b5 b6 hp2 => ?_
    exact ⟨pd2, _, _, _, _, _, _, rfl, hp2.mono (by omega), by omega⟩
  · rintro ρ ⟨pd', b4, b9, b10, b11, b12, b13, rfl, hp', hn⟩
    refine ⟨?_, rfl, pd', rfl, hp'.mono (by simp only [List.length_cons, List.length_nil]; omega)⟩
    obtain ⟨a, b, c, rfl, _⟩ := hp'.ex
    rfl
end Hx

set_option Elab.async false
set_option linter.all false
set_option maxRecDepth 100000
set_option maxHeartbeats 4000000
set_option pp.maxSteps 1200
/-! P32: k02: eight questions, 28 contexts. -/
namespace Hx
open PySem
local macro_rules | `(tactic| walk_at "hx") => `(tactic| simp only [E_v, E_lit, E_con, E_edct, E_tup, E_lst, E_neg, E_bin, E_cmp, E_chain, E_isN, E_not, E_and, E_or, EAnd_nil, EAnd_cons, EOr_nil, EOr_cons, E_ite, E_call, E_callk, E_bi, E_mkt, E_mkl, E_isa, E_idx, E_sl, E_rev, E_ixof, E_dzip, E_dget, E_comp, E_comp2, E_dcomp2, E_pop, Es_nil, Es_cons, Et_val, Et_not, Et_and, Et_or, ECs_nil, ECs_cons, EDs_nil, EDs_cons, EO_non, EO_som, EI_seq, EI_rng, EI_zip, EI_enm,
  St_asg, St_unp, St_setix, St_aug, St_ex, St_app, St_ext, St_ret, St_if, St_for, St_pas, Ss_nil, Ss_cons, Lit.d, List.getElem?_cons_zero, List.getElem?_cons_succ, List.set_cons_zero, List.set_cons_succ, List.length_cons, List.length_nil, List.map_cons, List.map_nil, List.replicate_succ, List.replicate_zero, List.cons_append, List.nil_append, Option.some.injEq, exists_eq_left', exists_eq_left, PyData.int.injEq, PyData.list.injEq, PyData.tuple.injEq, PyData.bool.injEq, PyData.str.injEq,
  ifB_tt, ifB_ff, ifB_dec, ifB_not, op_add, op_sub, op_mul, op_mod, op_fdiv, op_pow, op_addt, op_addl, cm_lt, cm_le, cm_gt, cm_ge, cm_eq, cm_ne, b_bool, t_bool, bi_len_l, bi_len_t, bi_tuple_l, bi_tuple_t, bi_list_l, bi_list_t, bi_int_i, bi_int_b, bi_absI, ix_list, ix_tuple, at_0, at_1, at_2, at_3, Bool.not_true, Bool.not_false, Nat.reduceSub, Nat.reduceAdd, neg_i, int_i, items_l, items_t, items_ll, exists_const, exists_and_left, ix30, ix31, ix32, own_v, own_tup, wipe_nil, wipe_cons, bindT_v, bindT_tup, setAll_nil, setAll_cons, true_and, and_true])
theorem Sce.pairs {ds : List (List Int)} (pm : ds.Perm (pairsL 20)) (ha : Hx.asc (ds.map tI) = true) : Sce twos ds := by
  have hl := pm.length_eq
  have h28 : (pairsL 20).length = 28 := by decide +kernel
  have cx : Ctxs 8 2 ds := ⟨pm.nodup_iff.mpr (pairs_nd 20), fun c hc => pairs_each 20 c (pm.mem_iff.mp hc)⟩
  exact ⟨pairs_scen pm ha (by decide), ((both_dS (n := 8) (width := 2) (l := twos) (by decide) (by decide) cx (by decide) (by decide) (by omega)).odd.short (by decide)), by decide, by decide, by decide, cx.wide (by decide), by omega, by omega⟩
def ManyS (m : Mng) : Prop := T (fun p => p.1 = .bool true) (m [])
theorem many_right_s {Γ : List Callee} {c1 c2 : Nat} {m1 m2 : Mng} (g1 : Γ[c1]? = some ⟨[], m1⟩) (h1 : ContextAtS m1) (g2 : Γ[c2]? = some ⟨[], m2⟩) (h2 : SharedS m2) : ManyS ((F_law_many_right c1 c2).mng Γ) := by
  refine (mng_T (P := fun x _ => x = .bool true) rfl).mpr ?_
  unfold F_law_many_right
  walk_at "hx"
  rw [rng_i (by decide) (by decide)]
  refine ⟨_, rfl, ?_⟩
  refine comp_M (fun x => .tuple [x]) (fun x hx => ⟨_, rfl, by walk_at "hx"⟩) (by decide) ?_
  walk_at "hx"
  have e1 : (List.map (fun x => PyData.tuple [x]) (List.map (fun i : Nat => PyData.int (i : Int)) (List.range (8 : Int).toNat))) = ((List.range 8).map fun i : Nat => [(i : Int)]).map tI := rfl
  rw [e1]
  refine loop_T (I := fun i ρ => ∃ o1, ρ = [some (.list ((((List.range 8).map fun i : Nat => [(i : Int)]) ++ pairsTo i).map tI)), o1, none, none, none, none, none, none] ∧ i ≤ 8) ?_ ?_ ?_
  · exact ⟨none, by rw [show pairsTo 0 = [] from rfl, List.append_nil], Nat.zero_le _⟩
  · rintro i x ρ hx ⟨o1, rfl, hi8⟩
    obtain ⟨hi, rfl⟩ := rng_get hx
    have hi : i < 8 := hi
    refine ⟨_, rfl, ?_⟩
    walk_at "hx"
    rw [rng_2 (by omega) (by omega)]
    refine ⟨_, rfl, ?_⟩
    refine comp_M (fun x => .tuple [.int (i : Int), x]) (fun x hx => ⟨_, rfl, by walk_at "hx"⟩) (by rw [List.length_map, List.length_range]; unfold lim; omega) ?_
    walk_at "hx"
    have e : (List.map (fun x => PyData.tuple [.int (i : Int), x]) (List.map (fun j : Nat => PyData.int ((i : Int) + 1 + (j : Int))) (List.range (8 - ((i : Int) + 1)).toNat))) = ((List.range (7 - i)).map fun j : Nat => [(i : Int), (i : Int) + 1 + (j : Int)]).map tI := by
      rw [List.map_map, List.map_map, show (8 - ((i : Int) + 1)).toNat = 7 - i by omega]
      rfl
    rw [e]
    have hl : (pairsTo i).length ≤ 28 := by
      have : ∀ i : Fin 9, (pairsTo i.val).length ≤ 28 := by decide +kernel
      exact this ⟨i, by omega⟩
    refine ⟨by simp only [List.length_map, List.length_range, List.length_append]; unfold lim; omega, some (.int (i : Int)), ?_, by omega⟩
    rw [pairsTo_succ, ← List.append_assoc, List.map_append (f := tI) (l₂ := (List.range (7 - i)).map _)]
  · rintro ρ ⟨o1, rfl, _⟩
    rw [List.length_map, List.length_range]
    walk_at "hx"
    have hc : ∀ xs : List PyData, cutL xs none (some 28) = xs.take 28 := fun xs => cut_to (k := 28)
    rw [slX_l, hc, ← List.map_take]
    have e2 : (((List.range 8).map fun i : Nat => [(i : Int)]) ++ pairsTo (8 : Int).toNat).take 28 = pairsL 20 := by decide +kernel
    rw [e2]
    rw [bi_sorted_tuples (by have : (pairsL 20).length = 28 := by decide +kernel
                             unfold lim; omega) fun c hc => (pairs_each 20 c hc).ne]
    obtain ⟨ds, es, pm⟩ := sort_tuples (pairsL 20)
    have ha := sort_asc (ord_tuples (pairsL 20)) (nodup_map (fun a b h => tI_inj h) (pairs_nd 20))
    rw [es] at ha
    rw [es]
    have sc := Sce.pairs pm ha
    have hlen : ds.length = 28 := pm.length_eq.trans (by decide +kernel)
    walk_at "hx"
    rw [op_mul8, rng_i (by decide) (by decide)]
    refine ⟨_, rfl, ?_⟩
    have e27 := List.getElem?_eq_getElem (show 27 < ds.length by omega)
    generalize ds[27] = e at e27
    refine loop_T (I := fun i ρ => ∃ o4 o5, ρ = [some (.list ((((List.range 8).map fun i : Nat => [(i : Int)]) ++ pairsTo (8 : Int).toNat).map tI)), o1, some (.tuple (ds.map tI)), some (dS twos ds), o4, o5, none, none]) ?_ ?_ ?_
    · exact ⟨none, none, rfl⟩
    · rintro i x ρ hx ⟨o4, o5, rfl⟩
      obtain ⟨hi, rfl⟩ := rng_get hx
      have hi : i < 28 := hi
      have ei := List.getElem?_eq_getElem (show i < ds.length by omega)
      generalize ds[i] = c at ei
      have qc := sc.qs (List.mem_of_getElem? ei)
      have lc := qc.len
      refine ⟨_, rfl, ?_⟩
      walk_at "hx"
      refine ⟨tI c, at_map_tI ei, ?_⟩
      refine ⟨_, rfl, ?_⟩
      refine comp_T (fun x => e.contains (intV x)) (fun x => x) (fun x hx => ⟨_, rfl, ?_⟩) (by rw [List.length_map]; unfold lim; omega) ?_
      · obtain ⟨k, hk, rfl⟩ := List.mem_map.mp hx
        walk_at "hx"
        refine ⟨tI e, at_map_tI (j := 27) e27, ?_⟩
        unfold tI
        rw [cm_in_t]
        exact ⟨fun h => ⟨h.symm, fun _ => trivial⟩, fun h => ⟨h.symm, fun _ => trivial⟩⟩
      rw [filter_ints]
      walk_at "hx"
      refine call_0 g1 ((h1 twos ds i c sc ei).mono fun p hp => ?_)
      rw [hp]
      walk_at "hx"
      refine ⟨tI c, at_map_tI ei, ?_⟩
      rw [cm_ne_tI, decide_eq_true rfl]
      walk_at "hx"
      refine call_0 g2 ((h2 twos ds i 27 c e sc ei e27).mono fun p hp => ?_)
      rw [hp]
      walk_at "hx"
      rw [show PyData.tuple ((c.filter fun k => e.contains k).map .int) = tI (c.filter fun k => e.contains k) from rfl, cm_ne_tI, decide_eq_true rfl]
      walk_at "hx"
      exact ⟨_, _, rfl⟩
    · rintro ρ ⟨o4, o5, rfl⟩
      exact ⟨rfl, rfl⟩
end Hx

set_option Elab.async false
set_option linter.all false
set_option maxRecDepth 100000
set_option maxHeartbeats 4000000
/-! P33: k02: the law. -/
namespace Hx
open PySem
local macro_rules | `(tactic| walk_at "hx") => `(tactic| simp only [E_v, E_lit, E_con, E_edct, E_tup, E_lst, E_neg, E_bin, E_cmp, E_chain, E_isN, E_not, E_and, E_or, EAnd_nil, EAnd_cons, EOr_nil, EOr_cons, E_ite, E_call, E_callk, E_bi, E_mkt, E_mkl, E_isa, E_idx, E_sl, E_rev, E_ixof, E_dzip, E_dget, E_comp, E_comp2, E_dcomp2, E_pop, Es_nil, Es_cons, Et_val, Et_not, Et_and, Et_or, ECs_nil, ECs_cons, EDs_nil, EDs_cons, EO_non, EO_som, EI_seq, EI_rng, EI_zip, EI_enm,
  St_asg, St_unp, St_setix, St_aug, St_ex, St_app, St_ext, St_ret, St_if, St_for, St_pas, Ss_nil, Ss_cons, Lit.d, List.getElem?_cons_zero, List.getElem?_cons_succ, List.set_cons_zero, List.set_cons_succ, List.length_cons, List.length_nil, List.map_cons, List.map_nil, List.replicate_succ, List.replicate_zero, List.cons_append, List.nil_append, Option.some.injEq, exists_eq_left', exists_eq_left, PyData.int.injEq, PyData.list.injEq, PyData.tuple.injEq, PyData.bool.injEq, PyData.str.injEq,
  ifB_tt, ifB_ff, ifB_dec, ifB_not, op_add, op_sub, op_mul, op_mod, op_fdiv, op_pow, op_addt, op_addl, cm_lt, cm_le, cm_gt, cm_ge, cm_eq, cm_ne, b_bool, t_bool, bi_len_l, bi_len_t, bi_tuple_l, bi_tuple_t, bi_list_l, bi_list_t, bi_int_i, bi_int_b, bi_absI, ix_list, ix_tuple, at_0, at_1, at_2, at_3, Bool.not_true, Bool.not_false, Nat.reduceSub, Nat.reduceAdd, neg_i, int_i, items_l, items_t, items_ll, exists_const, exists_and_left, ix30, ix31, ix32, own_v, own_tup, wipe_nil, wipe_cons, bindT_v, bindT_tup, setAll_nil, setAll_cons, true_and, and_true])
section
variable {Γ : List Callee} {ρ : Env} {P : PyData → Env → Prop}
/-- a call whose first argument was changed on the way to it -/
theorem call_1p {f i : Nat} {es : IEs} {ds : List PyData} {dv d0 : PyData} {m : Mng} (hg : Γ[f]? = some ⟨[0], m⟩) (he : argV es 0 = some i) (hd : ρ[i]? = some (some d0)) (h : T (fun p => ∃ d', p.2 = [d'] ∧ P p.1 (ρ.set i (some d'))) (m (d0 :: ds))) : callX Γ f es (dv :: ds) ρ P := by
  obtain ⟨g, e, t⟩ := call_1 (P := P) hg he hd h
  have e1 : patch [0] es (dv :: ds) ρ = patch [0] es (d0 :: ds) ρ := by
    unfold patch
    rw [he]
    rfl
  refine ⟨g, e, ?_⟩
  rw [hg] at e
  cases e
  exact e1 ▸ t
end
/-- 0 _law_script, 1 _law_k, 2 _law_pot_here, 3 _law_full -/
def F_law_02 (c_law_many_right : Nat) (c_law_pot : Nat) (c_law_take : Nat) (c_law_right : Nat) (c_law_scenario : Nat) : Fn := ⟨4, 1, [],
 (.cons (.ite (.not (.val (.call c_law_many_right .nil)))
  (.cons (.ret (.lit (.bl false)))
  .nil)
  .nil)
 (.cons (.for_ [] (.v 1) (.rng (.cons (.bi .max2 (.cons (.lit (.int 2)) (.cons (.bi .min2 (.cons (.lit (.int 30)) (.cons (.bi .len (.cons (.v 0) .nil)) .nil))) .nil))) .nil))
  (.cons (.asg 2 (.call c_law_pot (.cons (.v 0) (.cons (.v 1) .nil))))
  (.cons (.asg 3 (.ite (.val (.cmp .eq (.v 1) (.lit (.int 0)))) (.idx (.lst (.cons (.lit (.int 16)) (.cons (.lit (.int 16)) (.cons (.lit (.int 256)) .nil)))) (.call c_law_take (.cons (.v 2) (.cons (.lit (.int 3)) .nil)))) (.lit (.int 16))))
  (.cons (.ite (.not (.val (.call c_law_right (.cons (.v 2) (.cons (.call c_law_scenario (.cons (.v 2) (.cons (.lit (.int 8)) (.cons (.v 3) (.cons (.lit (.int 4)) (.cons (.lit (.int 400)) .nil)))))) .nil)))))
   (.cons (.ret (.lit (.bl false)))
   .nil)
   .nil)
  .nil))))
 (.cons (.ret (.lit (.bl true)))
 .nil)))⟩
theorem law_k02 {Γ : List Callee} {c1 c2 c3 c4 c5 : Nat} {m1 m2 m3 m4 m5 : Mng} (g1 : Γ[c1]? = some ⟨[], m1⟩) (h1 : ManyS m1) (g2 : Γ[c2]? = some ⟨[], m2⟩) (h2 : PotS m2) (g3 : Γ[c3]? = some ⟨[0], m3⟩) (h3 : TakeS m3) (g4 : Γ[c4]? = some ⟨[0], m4⟩) (h4 : RightS m4) (g5 : Γ[c5]? = some ⟨[0], m5⟩) (h5 : ScenarioS m5) :
    ∀ ns : List Int, ns.length ≤ 63 → T (fun p => p.1 = .bool true ∧ p.2 = []) ((F_law_02 c1 c2 c3 c4 c5).mng Γ [.list (ns.map .int)]) := by
  intro ns hns
  have hpl : 10000 ≤ potLim := by decide
  refine (mng_T (P := fun x o => x = .bool true ∧ o = []) rfl).mpr ?_
  unfold F_law_02
  walk_at "hx"
  refine call_0 g1 (T.mono h1 fun p hp => ?_)
  rw [hp]
  walk_at "hx"
  rw [k_min2, k_max2]
  generalize hk : (if (if (((ns.map PyData.int).length : Nat) : Int) < 30 then (((ns.map PyData.int).length : Nat) : Int) else 30) > 2 then (if (((ns.map PyData.int).length : Nat) : Int) < 30 then (((ns.map PyData.int).length : Nat) : Int) else 30) else 2) = top
  have ht : 0 ≤ top ∧ top ≤ 30 := by
    rw [List.length_map] at hk
    split at hk <;> omega
  rw [rng_i (by omega) (by omega)]
  refine ⟨_, rfl, ?_⟩
  refine loop_T (I := fun i ρ => ∃ o1 o2 o3, ρ = [some (.list (ns.map .int)), o1, o2, o3]) ?_ ?_ ?_
  · exact ⟨_, _, _, rfl⟩
  · rintro i x ρ hx ⟨o1, o2, o3, rfl⟩
    obtain ⟨hi, rfl⟩ := rng_get hx
    have hi : i < 30 := by omega
    refine ⟨_, rfl, ?_⟩
    walk_at "hx"
    refine call_0 g2 ((h2 ns i (by omega)).mono fun p hp => ?_)
    generalize p.1 = pd at hp
    walk_at "hx"
    have fin : ∀ (pd : PyData) (full : Int), Pot 10 pd → (full = 16 ∨ full = 256) → callX Γ c5 (.cons (.v 2) (.cons (.lit (.int 8)) (.cons (.v 3) (.cons (.lit (.int 4)) (.cons (.lit (.int 400)) .nil))))) [pd, .int 8, .int full, .int 4, .int 400]
        [some (.list (ns.map .int)), some (.int (i : Int)), some pd, some (.int full)] fun x ρ1 => callX Γ c4 (.cons (.v 2) (.cons (.call c5 (.cons (.v 2) (.cons (.lit (.int 8)) (.cons (.v 3) (.cons (.lit (.int 4)) (.cons (.lit (.int 400)) .nil)))))) .nil)) [pd, x] ρ1 fun x ρ1 => tX x fun k => ifB k (∃ o1 o2 o3, ρ1 = [some (.list (ns.map .int)), o1, o2, o3]) (endP [] (fun x o => x = .bool true ∧ o = []) (.bool false) ρ1) := by
      intro pd full hp hf
      refine call_1 g5 rfl rfl ((h5 10 pd 8 full 4 400 hp (by omega) (by decide) (by decide) (by omega) (by omega) (by decide) (by decide)).mono fun p hp2 => ?_)
      obtain ⟨l, cs, d2, e1, e2, sc, hp2⟩ := hp2
      refine ⟨d2, e2, ?_⟩
      rw [e1]
      refine call_1p g4 rfl rfl ((h4 _ d2 l cs (sc.sce (by decide) (by omega) (by decide)) hp2 (by omega)).mono fun p hp3 => ?_)
      obtain ⟨e3, d3, e4, hp3⟩ := hp3
      refine ⟨d3, e4, ?_⟩
      rw [e3]
      walk_at "hx"
      exact ⟨_, _, _, rfl⟩
    refine ⟨fun h0 => ?_, fun h0 => ?_⟩
    · refine call_take g3 h3 hp (by omega) (by omega) (by omega) rfl rfl fun r d1 p1 q1 hp1 => ?_
      have e : ∃ full : Int, L2.atI [PyData.int 16, .int 16, .int 256] r = some (.int full) ∧ (full = 16 ∨ full = 256) := by
        have : r = 0 ∨ r = 1 ∨ r = 2 := by omega
        rcases this with rfl | rfl | rfl
        · exact ⟨16, rfl, .inl rfl⟩
        · exact ⟨16, rfl, .inl rfl⟩
        · exact ⟨256, rfl, .inr rfl⟩
      obtain ⟨full, e1, hf⟩ := e
      walk_at "hx"
      refine ⟨_, e1, ?_⟩
      exact fin d1 full (hp1.mono (by omega)) hf
    · exact fin pd 16 (hp.mono (by omega)) (.inl rfl)
  · rintro ρ ⟨o1, o2, o3, rfl⟩
    exact ⟨rfl, rfl, rfl⟩
end Hx

set_option Elab.async false
set_option linter.all false
set_option maxRecDepth 100000
set_option maxHeartbeats 0
namespace Lw
open PySem PySem.Spec PyProof.Rows L2 Hx
def top (i : Nat) : Stmt := PySem.Challenge.pw_hiddentable_k02_rows_and_contexts.main.body.getD i (.Pass ⟨0, 0, 0, 0⟩)
/-- 0 _law_script, 1 _law_k, 2 _law_pot_here, 3 _law_full -/
def F_law (c_law_many_right : Nat) (c_law_pot : Nat) (c_law_take : Nat) (c_law_right : Nat) (c_law_scenario : Nat) : Fn := ⟨4, 1, [],
 (.cons (.ite (.not (.val (.call c_law_many_right .nil)))
  (.cons (.ret (.lit (.bl false)))
  .nil)
  .nil)
 (.cons (.for_ [] (.v 1) (.rng (.cons (.bi .max2 (.cons (.lit (.int 2)) (.cons (.bi .min2 (.cons (.lit (.int 30)) (.cons (.bi .len (.cons (.v 0) .nil)) .nil))) .nil))) .nil))
  (.cons (.asg 2 (.call c_law_pot (.cons (.v 0) (.cons (.v 1) .nil))))
  (.cons (.asg 3 (.ite (.val (.cmp .eq (.v 1) (.lit (.int 0)))) (.idx (.lst (.cons (.lit (.int 16)) (.cons (.lit (.int 16)) (.cons (.lit (.int 256)) .nil)))) (.call c_law_take (.cons (.v 2) (.cons (.lit (.int 3)) .nil)))) (.lit (.int 16))))
  (.cons (.ite (.not (.val (.call c_law_right (.cons (.v 2) (.cons (.call c_law_scenario (.cons (.v 2) (.cons (.lit (.int 8)) (.cons (.v 3) (.cons (.lit (.int 4)) (.cons (.lit (.int 400)) .nil)))))) .nil)))))
   (.cons (.ret (.lit (.bl false)))
   .nil)
   .nil)
  .nil))))
 (.cons (.ret (.lit (.bl true)))
 .nil)))⟩
/-- the module's constants -/
def con : List (PySem.Str × Lit) := [("MAX_ANSWERS", .int 4), ("MAX_CONTEXTS", .int 28), ("MAX_FULL", .int 256), ("MAX_QUESTIONS", .int 8), ("MIN_ANSWERS", .int 2)]
def d0 : DefR := ⟨⟨"_law_pot", 2, [], true, none⟩, ["_law_script", "_law_k"], ["_law_script", "_law_k", "_law_cell", "_law_mixed"], F_law_pot, defArgs (top 38), defBody (top 38), defScope (top 38)⟩
def d1 : DefR := ⟨⟨"_law_take", 2, [0], false, none⟩, ["_law_pot_here", "_law_number"], ["_law_pot_here", "_law_number", "_law_one", "_law_other", "_law_found"], F_law_take, defArgs (top 39), defBody (top 39), defScope (top 39)⟩
def d2 : DefR := ⟨⟨"_law_sizes", 3, [0], false, none⟩, ["_law_pot_here", "_law_most", "_law_full"], ["_law_pot_here", "_law_most", "_law_full", "_law_sizes_here", "_law_question", "_law_size"], F_law_sizes 1, defArgs (top 40), defBody (top 40), defScope (top 40)⟩
def d3 : DefR := ⟨⟨"_law_context", 3, [0], false, none⟩, ["_law_pot_here", "_law_count", "_law_width"], ["_law_pot_here", "_law_count", "_law_width", "_law_found", "_law_turn", "_law_question"], F_law_context 1, defArgs (top 41), defBody (top 41), defScope (top 41)⟩
def d4 : DefR := ⟨⟨"_law_rows", 2, [], false, none⟩, ["_law_sizes_here", "_law_asked"], ["_law_sizes_here", "_law_asked", "_law_found", "_law_question", "_law_longer", "_law_row", "_law_answer"], F_law_rows, defArgs (top 44), defBody (top 44), defScope (top 44)⟩
def d5 : DefR := ⟨⟨"_law_cycle", 3, [0], true, none⟩, ["_law_pot_here", "_law_sizes_here", "_law_lines"], ["_law_pot_here", "_law_sizes_here", "_law_lines", "_law_some_here", "_law_turn", "_law_three", "_law_triples", "_law_pairs", "_law_way", "_law_shapes", "_law_shape", "_law_found", "_law_part", "_law_at", "_law_context_here"], F_law_cycle 1 4, defArgs (top 42), defBody (top 42), defScope (top 42)⟩
def d6 : DefR := ⟨⟨"_law_scenario", 5, [0], false, none⟩, ["_law_pot_here", "_law_most", "_law_full", "_law_width", "_law_lines"], ["_law_pot_here", "_law_most", "_law_full", "_law_width", "_law_lines", "_law_sizes_here", "_law_found", "_law_left", "_law_turn", "_law_question", "_law_context_here", "_law_cost"], F_law_scenario 2 5 4 1 3, defArgs (top 43), defBody (top 43), defScope (top 43)⟩
def d7 : DefR := ⟨⟨"product_of", 1, [], false, none⟩, ["numbers"], ["numbers", "found", "number"], F_product_of, defArgs (top 15), defBody (top 15), defScope (top 15)⟩
def d8 : DefR := ⟨⟨"is_ascending", 1, [], false, none⟩, ["values"], ["values", "one", "other"], F_is_ascending, defArgs (top 14), defBody (top 14), defScope (top 14)⟩
def d9 : DefR := ⟨⟨"is_integer", 1, [], false, none⟩, ["value"], ["value"], F_is_integer, defArgs (top 12), defBody (top 12), defScope (top 12)⟩
def d10 : DefR := ⟨⟨"is_between", 3, [], false, none⟩, ["value", "low", "high"], ["value", "low", "high"], F_is_between 9, defArgs (top 13), defBody (top 13), defScope (top 13)⟩
def d11 : DefR := ⟨⟨"are_numbers_below", 2, [], false, none⟩, ["value", "limit"], ["value", "limit", "one"], F_are_numbers_below 10 8, defArgs (top 16), defBody (top 16), defScope (top 16)⟩
def d12 : DefR := ⟨⟨"are_sizes", 1, [], false, none⟩, ["value"], ["value", "size"], F_are_sizes 10 7, defArgs (top 17), defBody (top 17), defScope (top 17)⟩
def d13 : DefR := ⟨⟨"is_scenario", 1, [], false, none⟩, ["value"], ["value", "covered", "sizes", "contexts", "context", "question"], F_is_scenario 12 11 8, defArgs (top 18), defBody (top 18), defScope (top 18)⟩
def d14 : DefR := ⟨⟨"need_scenario", 1, [], false, none⟩, ["scenario"], ["scenario"], F_need_scenario 13, defArgs (top 19), defBody (top 19), defScope (top 19)⟩
def d15 : DefR := ⟨⟨"full_size", 1, [], false, none⟩, ["scenario"], ["scenario"], F_full_size 14 7, defArgs (top 29), defBody (top 29), defScope (top 29)⟩
def d16 : DefR := ⟨⟨"need_index", 2, [], false, none⟩, ["scenario", "index"], ["scenario", "index"], F_need_index 10, defArgs (top 22), defBody (top 22), defScope (top 22)⟩
def d17 : DefR := ⟨⟨"context_at", 2, [], false, none⟩, ["scenario", "index"], ["scenario", "index"], F_context_at 14 16, defArgs (top 30), defBody (top 30), defScope (top 30)⟩
def d18 : DefR := ⟨⟨"are_questions", 2, [], false, none⟩, ["scenario", "value"], ["scenario", "value"], F_are_questions 11, defArgs (top 20), defBody (top 20), defScope (top 20)⟩
def d19 : DefR := ⟨⟨"need_questions", 2, [], false, none⟩, ["scenario", "questions"], ["scenario", "questions"], F_need_questions 18, defArgs (top 21), defBody (top 21), defScope (top 21)⟩
def d20 : DefR := ⟨⟨"rows_by", 2, [], false, none⟩, ["scenario", "questions"], ["scenario", "questions", "found", "question", "row", "answer"], F_rows_by, defArgs (top 23), defBody (top 23), defScope (top 23)⟩
def d21 : DefR := ⟨⟨"rows_of", 2, [], false, none⟩, ["scenario", "questions"], ["scenario", "questions"], F_rows_of 14 19 20, defArgs (top 31), defBody (top 31), defScope (top 31)⟩
def d22 : DefR := ⟨⟨"is_row_of", 3, [], false, none⟩, ["scenario", "questions", "value"], ["scenario", "questions", "value", "question", "answer"], F_is_row_of 10, defArgs (top 24), defBody (top 24), defScope (top 24)⟩
def d23 : DefR := ⟨⟨"need_row", 3, [], false, none⟩, ["scenario", "questions", "row"], ["scenario", "questions", "row"], F_need_row 22, defArgs (top 25), defBody (top 25), defScope (top 25)⟩
def d24 : DefR := ⟨⟨"index_by", 3, [], false, none⟩, ["scenario", "questions", "row"], ["scenario", "questions", "row", "found", "question", "answer"], F_index_by, defArgs (top 26), defBody (top 26), defScope (top 26)⟩
def d25 : DefR := ⟨⟨"row_index", 3, [], false, none⟩, ["scenario", "questions", "row"], ["scenario", "questions", "row"], F_row_index 14 19 23 24, defArgs (top 32), defBody (top 32), defScope (top 32)⟩
def d26 : DefR := ⟨⟨"part_by", 3, [], false, none⟩, ["questions", "row", "part"], ["questions", "row", "part", "answers", "question"], F_part_by, defArgs (top 27), defBody (top 27), defScope (top 27)⟩
def d27 : DefR := ⟨⟨"is_part", 2, [], false, none⟩, ["questions", "value"], ["questions", "value", "one"], F_is_part 9 8, defArgs (top 33), defBody (top 33), defScope (top 33)⟩
def d28 : DefR := ⟨⟨"need_part", 2, [], false, none⟩, ["questions", "part"], ["questions", "part"], F_need_part 27, defArgs (top 34), defBody (top 34), defScope (top 34)⟩
def d29 : DefR := ⟨⟨"part_of", 4, [], false, none⟩, ["scenario", "questions", "row", "part"], ["scenario", "questions", "row", "part"], F_part_of 14 19 23 28 26, defArgs (top 35), defBody (top 35), defScope (top 35)⟩
def d30 : DefR := ⟨⟨"shared_by", 3, [], false, none⟩, ["scenario", "first", "second"], ["scenario", "first", "second", "question"], F_shared_by, defArgs (top 28), defBody (top 28), defScope (top 28)⟩
def d31 : DefR := ⟨⟨"shared_questions", 3, [], false, none⟩, ["scenario", "first", "second"], ["scenario", "first", "second"], F_shared_questions 14 16 30, defArgs (top 36), defBody (top 36), defScope (top 36)⟩
def d32 : DefR := ⟨⟨"_law_some", 2, [0], false, none⟩, ["_law_pot_here", "_law_asked"], ["_law_pot_here", "_law_asked", "_law_question"], F_law_some 1, defArgs (top 45), defBody (top 45), defScope (top 45)⟩
def d33 : DefR := ⟨⟨"_law_right", 2, [0], false, none⟩, ["_law_pot_here", "_law_scenario_here"], ["_law_pot_here", "_law_scenario_here", "_law_whole", "_law_both", "_law_asked", "_law_sizes_here", "_law_contexts", "_law_one", "_law_other", "_law_rows_here", "_law_at", "_law_some_here", "_law_due", "_law_question"], F_law_right 15 4 1 17 31 32 21 25 29, defArgs (top 46), defBody (top 46), defScope (top 46)⟩
def d34 : DefR := ⟨⟨"_law_many_right", 0, [], false, none⟩, [], ["_law_found", "_law_one", "_law_contexts", "_law_scenario_here", "_law_spot", "_law_both", "_law_question", "_law_other"], F_law_many_right 17 31, defArgs (top 47), defBody (top 47), defScope (top 47)⟩
def d35 : DefR := ⟨⟨"law", 1, [], false, none⟩, ["_law_script"], ["_law_script", "_law_k", "_law_pot_here", "_law_full"], F_law 34 0 1 33 6, defArgs (top 48), defBody (top 48), defScope (top 48)⟩
def ds_0 : List DefR := [
  d0,
  d1,
  d2,
  d3,
  d4,
  d5,
  d6,
  d7,
  d8,
  d9,
  d10,
  d11,
  d12,
  d13,
  d14,
  d15,
  d16,
  d17,
  d18,
  d19,
  d20,
  d21,
  d22,
  d23,
  d24,
  d25,
  d26,
  d27,
  d28,
  d29]
def ds_1 : List DefR := [
  d30,
  d31,
  d32,
  d33,
  d34]
def ds : List DefR := ds_0 ++ ds_1
noncomputable def Γ : List Hx.Callee := ds.foldl addC []
theorem chk : chkAll con [] (ds ++ [d35]) = true := by decide +kernel
end Lw

set_option Elab.async false
set_option linter.all false
set_option maxRecDepth 100000
set_option maxHeartbeats 0
namespace Lw
open PySem PySem.Spec PyProof.Rows L2 Hx
theorem a0 : PotS (d0.F.mng (tabN ds 0)) := pot_s 
theorem a1 : TakeS (d1.F.mng (tabN ds 1)) := take_s 
theorem a2 : SizesS (d2.F.mng (tabN ds 2)) := sizes_s (tab_at (ds := ds) (n := 2) (j := 1) (d := d1) rfl (by decide)) a1
theorem a3 : ContextS (d3.F.mng (tabN ds 3)) := context_s (tab_at (ds := ds) (n := 3) (j := 1) (d := d1) rfl (by decide)) a1
theorem a4 : RowsS (d4.F.mng (tabN ds 4)) := rows_s 
theorem a5 : CycleS (d5.F.mng (tabN ds 5)) := cycle_s (tab_at (ds := ds) (n := 5) (j := 1) (d := d1) rfl (by decide)) a1 (tab_at (ds := ds) (n := 5) (j := 4) (d := d4) rfl (by decide)) a4
theorem a6 : ScenarioS (d6.F.mng (tabN ds 6)) := scenario_s (tab_at (ds := ds) (n := 6) (j := 2) (d := d2) rfl (by decide)) a2 (tab_at (ds := ds) (n := 6) (j := 5) (d := d5) rfl (by decide)) a5 (tab_at (ds := ds) (n := 6) (j := 4) (d := d4) rfl (by decide)) a4 (tab_at (ds := ds) (n := 6) (j := 1) (d := d1) rfl (by decide)) a1 (tab_at (ds := ds) (n := 6) (j := 3) (d := d3) rfl (by decide)) a3
theorem a7 : ProductS (d7.F.mng (tabN ds 7)) := product_s 
theorem a8 : AscS (d8.F.mng (tabN ds 8)) := asc_s 
theorem a9 : IntegerS (d9.F.mng (tabN ds 9)) := integer_s 
theorem a10 : BetweenS (d10.F.mng (tabN ds 10)) := between_s (tab_at (ds := ds) (n := 10) (j := 9) (d := d9) rfl (by decide)) a9
theorem a11 : NumsS (d11.F.mng (tabN ds 11)) := nums_s (tab_at (ds := ds) (n := 11) (j := 10) (d := d10) rfl (by decide)) a10 (tab_at (ds := ds) (n := 11) (j := 8) (d := d8) rfl (by decide)) a8
theorem a12 : SizesIsS (d12.F.mng (tabN ds 12)) := are_sizes_s (tab_at (ds := ds) (n := 12) (j := 10) (d := d10) rfl (by decide)) a10 (tab_at (ds := ds) (n := 12) (j := 7) (d := d7) rfl (by decide)) a7
theorem a13 : ScenS (d13.F.mng (tabN ds 13)) := scen_s (tab_at (ds := ds) (n := 13) (j := 12) (d := d12) rfl (by decide)) a12 (tab_at (ds := ds) (n := 13) (j := 11) (d := d11) rfl (by decide)) a11 (tab_at (ds := ds) (n := 13) (j := 8) (d := d8) rfl (by decide)) a8
theorem a14 : NeedS1 (d14.F.mng (tabN ds 14)) := need_scenario_s (tab_at (ds := ds) (n := 14) (j := 13) (d := d13) rfl (by decide)) a13
theorem a15 : FullSizeS (d15.F.mng (tabN ds 15)) := full_size_s (tab_at (ds := ds) (n := 15) (j := 14) (d := d14) rfl (by decide)) a14 (tab_at (ds := ds) (n := 15) (j := 7) (d := d7) rfl (by decide)) a7
theorem a16 : NeedIndexS (d16.F.mng (tabN ds 16)) := need_index_s (tab_at (ds := ds) (n := 16) (j := 10) (d := d10) rfl (by decide)) a10
theorem a17 : ContextAtS (d17.F.mng (tabN ds 17)) := context_at_s (tab_at (ds := ds) (n := 17) (j := 14) (d := d14) rfl (by decide)) a14 (tab_at (ds := ds) (n := 17) (j := 16) (d := d16) rfl (by decide)) a16
theorem a18 : AreQsS (d18.F.mng (tabN ds 18)) := are_questions_s (tab_at (ds := ds) (n := 18) (j := 11) (d := d11) rfl (by decide)) a11
theorem a19 : NeedQsS (d19.F.mng (tabN ds 19)) := need_questions_s (tab_at (ds := ds) (n := 19) (j := 18) (d := d18) rfl (by decide)) a18
theorem a20 : RowsByS (d20.F.mng (tabN ds 20)) := rows_by_s 
theorem a21 : RowsOfS (d21.F.mng (tabN ds 21)) := rows_of_s (tab_at (ds := ds) (n := 21) (j := 14) (d := d14) rfl (by decide)) a14 (tab_at (ds := ds) (n := 21) (j := 19) (d := d19) rfl (by decide)) a19 (tab_at (ds := ds) (n := 21) (j := 20) (d := d20) rfl (by decide)) a20
theorem a22 : IsRowS (d22.F.mng (tabN ds 22)) := is_row_of_s (tab_at (ds := ds) (n := 22) (j := 10) (d := d10) rfl (by decide)) a10
theorem a23 : NeedRowS (d23.F.mng (tabN ds 23)) := need_row_s (tab_at (ds := ds) (n := 23) (j := 22) (d := d22) rfl (by decide)) a22
theorem a24 : IndexByS (d24.F.mng (tabN ds 24)) := index_by_s 
theorem a25 : RowIndexS (d25.F.mng (tabN ds 25)) := row_index_s (tab_at (ds := ds) (n := 25) (j := 14) (d := d14) rfl (by decide)) a14 (tab_at (ds := ds) (n := 25) (j := 19) (d := d19) rfl (by decide)) a19 (tab_at (ds := ds) (n := 25) (j := 23) (d := d23) rfl (by decide)) a23 (tab_at (ds := ds) (n := 25) (j := 24) (d := d24) rfl (by decide)) a24
theorem a26 : PartByS (d26.F.mng (tabN ds 26)) := part_by_s 
theorem a27 : IsPartS (d27.F.mng (tabN ds 27)) := is_part_s (tab_at (ds := ds) (n := 27) (j := 9) (d := d9) rfl (by decide)) a9 (tab_at (ds := ds) (n := 27) (j := 8) (d := d8) rfl (by decide)) a8
theorem a28 : NeedPartS (d28.F.mng (tabN ds 28)) := need_part_s (tab_at (ds := ds) (n := 28) (j := 27) (d := d27) rfl (by decide)) a27
theorem a29 : PartOfS (d29.F.mng (tabN ds 29)) := part_of_s (tab_at (ds := ds) (n := 29) (j := 14) (d := d14) rfl (by decide)) a14 (tab_at (ds := ds) (n := 29) (j := 19) (d := d19) rfl (by decide)) a19 (tab_at (ds := ds) (n := 29) (j := 23) (d := d23) rfl (by decide)) a23 (tab_at (ds := ds) (n := 29) (j := 28) (d := d28) rfl (by decide)) a28 (tab_at (ds := ds) (n := 29) (j := 26) (d := d26) rfl (by decide)) a26
theorem a30 : SharedByS (d30.F.mng (tabN ds 30)) := shared_by_s 
theorem a31 : SharedS (d31.F.mng (tabN ds 31)) := shared_questions_s (tab_at (ds := ds) (n := 31) (j := 14) (d := d14) rfl (by decide)) a14 (tab_at (ds := ds) (n := 31) (j := 16) (d := d16) rfl (by decide)) a16 (tab_at (ds := ds) (n := 31) (j := 30) (d := d30) rfl (by decide)) a30
theorem a32 : SomeS (d32.F.mng (tabN ds 32)) := some_s (tab_at (ds := ds) (n := 32) (j := 1) (d := d1) rfl (by decide)) a1
theorem a33 : RightS (d33.F.mng (tabN ds 33)) := right_s (tab_at (ds := ds) (n := 33) (j := 15) (d := d15) rfl (by decide)) a15 (tab_at (ds := ds) (n := 33) (j := 4) (d := d4) rfl (by decide)) a4 (tab_at (ds := ds) (n := 33) (j := 1) (d := d1) rfl (by decide)) a1 (tab_at (ds := ds) (n := 33) (j := 17) (d := d17) rfl (by decide)) a17 (tab_at (ds := ds) (n := 33) (j := 31) (d := d31) rfl (by decide)) a31 (tab_at (ds := ds) (n := 33) (j := 32) (d := d32) rfl (by decide)) a32 (tab_at (ds := ds) (n := 33) (j := 21) (d := d21) rfl (by decide)) a21 (tab_at (ds := ds) (n := 33) (j := 25) (d := d25) rfl (by decide)) a25 (tab_at (ds := ds) (n := 33) (j := 29) (d := d29) rfl (by decide)) a29
theorem a34 : ManyS (d34.F.mng (tabN ds 34)) := many_right_s (tab_at (ds := ds) (n := 34) (j := 17) (d := d17) rfl (by decide)) a17 (tab_at (ds := ds) (n := 34) (j := 31) (d := d31) rfl (by decide)) a31
theorem plain : ∀ ns : List Int, ns.length ≤ 63 → (∀ z ∈ ns, Builtin.Int.intBits z ≤ 1048576) → d35.F.mng (ds.foldl addC []) [.list (ns.map .int)] = .ok (.bool true, []) :=
  plain_of (Γ' := tabN ds 35) (by unfold tabN; rw [show ds.take 35 = ds from rfl]) (law_k02 (tab_at (ds := ds) (n := 35) (j := 34) (d := d34) rfl (by decide)) a34 (tab_at (ds := ds) (n := 35) (j := 0) (d := d0) rfl (by decide)) a0 (tab_at (ds := ds) (n := 35) (j := 1) (d := d1) rfl (by decide)) a1 (tab_at (ds := ds) (n := 35) (j := 33) (d := d33) rfl (by decide)) a33 (tab_at (ds := ds) (n := 35) (j := 6) (d := d6) rfl (by decide)) a6)
end Lw

set_option Elab.async false
set_option linter.all false
set_option maxRecDepth 100000
set_option maxHeartbeats 0
namespace Lw
open PySem PySem.Spec PyProof.Rows L2 Hx
def loose_0 : List PySem.Str := ["HiddenTableError", "InvalidScenario", "InvalidQuestions", "UnknownContext", "InvalidRow", "MAX_QUESTIONS", "MIN_ANSWERS", "MAX_ANSWERS", "MAX_CONTEXTS", "MAX_FULL", "is_integer", "is_between", "is_ascending", "product_of", "are_numbers_below", "are_sizes", "is_scenario", "need_scenario", "are_questions", "need_questions", "need_index", "rows_by", "is_row_of", "need_row", "index_by", "part_by", "shared_by", "full_size", "context_at", "rows_of"]
def loose_1 : List PySem.Str := ["row_index", "is_part", "need_part", "part_of", "shared_questions", "_law_pot", "_law_take", "_law_sizes", "_law_context", "_law_cycle", "_law_scenario", "_law_rows", "_law_some", "_law_right", "_law_many_right"]
def loose : List PySem.Str := loose_0 ++ loose_1
def fn : List He.DefD := (ds ++ [d35]).map toD
def fa : List He.Fa := faOf con (ds ++ [d35])
abbrev R : PySem.W.OpenRow := PySem.W.OpenLaw.row PySem.Challenge.rw_hiddentable_k02_rows_and_contexts
abbrev hk : PySem.W.Hook := He.hookD 5 fa fn
def ob (s : PySem.W.SharedT) : He.AlD := He.obsDG 5 fa fn (HandSHeadRun.getT s)
theorem ob_eq (s : PySem.W.SharedT) : ob s = hk.obs s.abs := He.obsDG_eq (HandSHeadRun.getT_eq s)
theorem run (w : World) : HandSHeadRun.RunEq R (PySem.W.view R.prog [48]) hk ob 11800 loose w := by
  intro os
  kernel_rfl
end Lw
open PySem PySem.W PySem.Calls PyProof.Rows
theorem PySem.Challenge.cw_hiddentable_k02_rows_and_contexts_holds : PySem.Challenge.rw_hiddentable_k02_rows_and_contexts.Holds := by
  w_on; o_law
  refine HandSHeadRun.head_any (r := OpenLaw.row PySem.Challenge.rw_hiddentable_k02_rows_and_contexts) (q := view (OpenLaw.row PySem.Challenge.rw_hiddentable_k02_rows_and_contexts).prog [48]) (H := Lw.hk) (ob := Lw.ob) (M := 11800) (loose := Lw.loose) (d := HandSHeadRun.topDef (OpenLaw.row PySem.Challenge.rw_hiddentable_k02_rows_and_contexts).prog 48) (kwd := []) Lw.ob_eq
    (by kernel_rfl) (fun s => by kernel_rfl) Lw.run (by kernel_rfl) (by kernel_rfl) (by kernel_rfl) (by rfl) (by first | assumption | decide +kernel) (by decide +kernel) ⟨rfl, rfl, rfl, rfl, rfl, by decide +kernel⟩ ?hw ?hc
  case hw => w_witness2
  case hc =>
    refine Hx.walk_ofG (l := PySem.Challenge.rw_hiddentable_k02_rows_and_contexts) (n := 63) (k := 35 + 1) (x := "_law_script") rfl (by decide) (by kernel_rfl) ⟨rfl, by decide, by decide⟩ ?F
    intro w mg fa h Y G hmg0
    obtain ⟨K, KX, c⟩ := Y
    have hmg : mg ("law" : PySem.Str) = some (.ref fa) := by
      have e : (HandSHeadRun.topDef (OpenLaw.row PySem.Challenge.rw_hiddentable_k02_rows_and_contexts).prog 48).name = ("law" : PySem.Str) := by kernel_rfl
      rw [← e]
      exact hmg0
    exact Hx.law_F (ds := Lw.ds) (d := Lw.d35) (con := Lw.con) c KX G hmg rfl rfl rfl rfl (by decide +kernel) (by decide +kernel) Lw.chk Lw.plain
