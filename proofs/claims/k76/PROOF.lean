import PyProof.Rows.All
import Wide.All
import OpenK.AllK
import Wide.FinOn
import HandS.ForMost
import HandS.Flow
import KE.DataMinMax
import KE.LtData
import HandS.Lambda
import HandS.TupAny
import HandS.TupMul
import HandS.Wide
import HandS.Text
import HandS.Deep
import KE.SortData
import PyProof.MaxThree
import HandS.Exc
import HandS.ExcOwn
import HandS.IsInst
import HandS.ExcIs
import HandS.SetFor
import HandS.Strs
import HandS.Comp
import HandS.Walk
import HandS.Iter
import HandS.Zip
import HandS.TryOnly
import HandS.DictComp
import KE.GoesEnum
import HandS.Defaults
import HandS.EndTab
import HandS.HeadWalk
import HandS.HeadHook4
import HandS.Head2
import HandS.FStrTup
import PyProof.FitsInt
import PySem.Challenge.RW_tonehouse_k76_whole_costs_of_fingers_on
set_option Elab.async false
set_option autoImplicit false
set_option linter.all false
set_option maxRecDepth 100000
/-! A deep evaluator of the Python subset, over PyData. Definitions alone. -/
namespace Ev
open PySem L2

inductive BOp where | add | sub | mul | fdiv | mod | pow
  deriving DecidableEq, Repr
inductive COp where | eq | ne | lt | le | gt | ge | mem | nmem
  deriving DecidableEq, Repr
inductive Ty where | int | bool | str | tuple | list | dict
  deriving DecidableEq, Repr
inductive Bi where | len | abs | int | bool | min | max | sum | sorted | all | any | list | tuple | repr | str
  deriving DecidableEq, Repr
inductive Me where | index | count
  deriving DecidableEq, Repr
/-- a target: a name's slot, a tuple of targets -/
inductive Pa where | nm (i : Nat) | tup (p : Pa) | nil | cons (p r : Pa)
  deriving DecidableEq, Repr
/-- expressions; nil, cons: argument lists -/
inductive Ex where
  | var (i : Nat) | non | bl (b : Bool) | int (i : Int) | str (s : Str) | glb (k : Nat)
  | nil | cons (a r : Ex) | tpv (i : Nat) | scv (i : Nat) | scs (i : Nat) (lo hi : Ex)
  | tup (es : Ex) | lst (es : Ex) | dic (ks vs : Ex)
  | bin (o : BOp) (a b : Ex) | neg (a : Ex) | not (a : Ex) | and (a b : Ex) | or (a b : Ex)
  | cmp (o : COp) (a b : Ex) | cm2 (o p : COp) (a b c : Ex) | isn (a : Ex) | nsn (a : Ex)
  | ite (c a b : Ex)
  | idx (a i : Ex) | tix (i : Nat) (k : Ex) | sli (a lo hi : Ex) | rev (a : Ex)
  | call (f : Nat) (es : Ex) | bi (b : Bi) (es : Ex) | isi (a : Ex) (ts : List Ty) | met (m : Me) (o es : Ex)
  | comp (p : Pa) (it c e : Ex) | dcom (p : Pa) (it k v : Ex) | comp2 (p : Pa) (it : Ex) (q : Pa) (it2 c e : Ex)
  | rng (a b : Ex) | rn3 (a b c : Ex) | enu (a s : Ex) | zip (a b : Ex) | vals (a : Ex) | its (a : Ex) | lof (a : Ex)
  | lam (b : Ex) | act (i : Nat) | isx (i c : Nat) | plc (i : Nat)
  | srt (p : Pa) (a k : Ex) | rv2 (a : Ex) | tof (a : Ex) | gix (k : Nat) (e : Ex)
  deriving DecidableEq, Repr
/-- statements -/
inductive St where
  | nop | seq (a b : St)
  | set (p : Pa) (e : Ex) | par (i j : Nat) (a b : Ex) | aug (i : Nat) (o : BOp) (e : Ex)
  | app (i : Nat) (e : Ex) | ext (i : Nat) (e : Ex) | sto (i : Nat) (k e : Ex) | tst (i : Nat) (k e : Ex) | upd (i : Nat) (e : Ex)
  | apo (i j : Nat) (e : Ex) | aui (i : Nat) (k : Ex) (o : BOp) (e : Ex)
  | ret (e : Ex) | retn
  | ife (c : Ex) (a b : St) | forr (p : Pa) (it : Ex) (b : St) | whl (c : Ex) (b : St)
  | rai (c : Nat) (es : Ex) | tryx (b : St) (i : Nat) (h : St)
  | exp (e : Ex) | stp (i : Nat) (e : Ex) | tryl (i : Nat) (h : St) | trya (j i : Nat) (h : St)
  deriving DecidableEq, Repr

/-- the tape: the items of the one list that callees change -/
abbrev Tp := Option (List PyData)
inductive Vl where
  | d (x : PyData) | tp | scr (ns : List Int) | lam (b : Ex) (r : List (Option PyData)) | exc (c : Nat) (p : List PyData)
abbrev Env := List (Option Vl)
inductive Res (α : Type) where
  | ok (a : α) (t : Tp) | exc (c : Nat) (p : List PyData) (t : Tp) | bad
def Res.bind {α β : Type} (r : Res α) (f : α → Tp → Res β) : Res β := match r with
  | .ok a t => f a t
  | .exc c p t => .exc c p t
  | .bad => .bad
def lift {α : Type} (o : Option α) (t : Tp) : Res α := match o with
  | some a => .ok a t
  | none => .bad

/-! ### data -/
def line : Nat := 16777216
def isMut : PyData → Bool
  | .list _ | .dict _ => true
  | _ => false
def isCont : PyData → Bool
  | .list _ | .dict _ | .tuple _ => true
  | _ => false
def truthD : PyData → Option Bool
  | .none => some false
  | .bool b => some b
  | .int i => some (i != 0)
  | .str s => if s.length ≤ line then some (s.length != 0) else none
  | .list xs | .tuple xs => some (!xs.isEmpty)
  | .dict kvs => some (!kvs.isEmpty)
def binD : BOp → PyData → PyData → Option PyData
  | .add, .int a, .int b => some (.int (a + b))
  | .add, .str a, .str b => if a.length + b.length ≤ line then some (.str (a ++ b)) else none
  | .add, .list a, .list b => if a.length + b.length ≤ line then some (.list (a ++ b)) else none
  | .add, .tuple a, .tuple b => if a.length + b.length ≤ line then some (.tuple (a ++ b)) else none
  | .sub, .int a, .int b => some (.int (a - b))
  | .mul, .int a, .int b => if (-(2 ^ 64) < a ∧ a < 2 ^ 64) ∨ (-(2 ^ 64) < b ∧ b < 2 ^ 64) ∨ (a.natAbs < 2 ^ 20000 ∧ b.natAbs < 2 ^ 20000) then some (.int (a * b)) else none
  | .mul, .list a, .int k => if -(2 ^ 63) ≤ k ∧ k < 2 ^ 63 ∧ a.length * k.toNat ≤ line then some (.list (List.replicate k.toNat a).flatten) else none
  | .mul, .tuple a, .int k => if k = 1 then some (.tuple a) else if a.isEmpty = false ∧ 2 ≤ k ∧ k ≤ 1000 ∧ a.length ≤ 1000 then some (.tuple (List.replicate k.toNat a).flatten) else none
  | .fdiv, .int a, .int b => if 0 < b ∧ b.natAbs < 2 ^ 2000 then some (.int (a / b)) else none
  | .mod, .int a, .int b => if 0 < b then some (.int (a % b)) else none
  | .pow, .int a, .int b => if 0 ≤ b ∧ b ≤ 1000000 ∧ a.natAbs < 2 ^ 64 then some (.int (a ^ b.toNat)) else none
  | _, _, _ => none
def scalD : PyData → PyData → Bool
  | .none, .none | .none, .int _ | .int _, .none | .none, .bool _ | .bool _, .none | .none, .str _ | .str _, .none => true
  | .int _, .int _ | .bool _, .bool _ | .str _, .str _ | .int _, .str _ | .str _, .int _ | .bool _, .str _ | .str _, .bool _ => true
  | _, _ => false
def eqD (x y : PyData) : Option Bool := if (scalD x y || (SeqAt.shaped x && SeqAt.shaped y)) = true then some (PyData.eqv x y) else none
def notNone : PyData → Bool
  | .none => false
  | _ => true
def ltD : PyData → PyData → Option Bool
  | .int a, .int b => some (decide (a < b))
  | x, y => if (W.alike x y && notNone x && !x.hasDict && !y.hasDict && decide (x.depth ≤ 64)) = true then some (W.dataLt x y) else none
def flatD : PyData → Bool
  | .list _ | .tuple _ | .dict _ => false
  | _ => true
def anyEq (x : PyData) (ds : List PyData) : Bool := ds.any fun z => PyData.eqv z x
/-- what a dict's key may be -/
def keyOf : PyData → Option Key
  | .int i => some (.inl i)
  | .str z => some (.inr z)
  | _ => none
def look (k : Key) : List (PyData × PyData) → Option PyData
  | [] => none
  | (a, b) :: r => if keyOf a = some k then some b else look k r
def hasK (k : Key) : List (PyData × PyData) → Bool
  | [] => false
  | (a, _) :: r => decide (keyOf a = some k) || hasK k r
def subK (k : Key) (v : PyData) : List (PyData × PyData) → List (PyData × PyData)
  | [] => []
  | (a, b) :: r => (if keyOf a = some k then (a, v) else (a, b)) :: subK k v r
def datK : Key → PyData
  | .inl i => .int i
  | .inr z => .str z
def put (k : Key) (v : PyData) (ds : List (PyData × PyData)) : List (PyData × PyData) := if hasK k ds = true then subK k v ds else ds ++ [(datK k, v)]
def memD (x : PyData) : PyData → Option Bool
  | .list ds => if ((flatD x && ds.all flatD) || (SeqAt.shaped x && SeqAt.shaped (.list ds))) = true then some (anyEq x ds) else none
  | .tuple ds => if ((flatD x && ds.all flatD) || (SeqAt.shaped x && SeqAt.shaped (.tuple ds))) = true then some (anyEq x ds) else none
  | .str z => match x with
    | .str y => if z.length ≤ 1000 then some (!(Builtin.Str.occurrences z y 0 z.length 1).isEmpty) else none
    | _ => none
  | .dict kvs => (keyOf x).map fun k => hasK k kvs
  | _ => none
def cmpD : COp → PyData → PyData → Option Bool
  | .eq, x, y => eqD x y
  | .ne, x, y => (eqD x y).map (!·)
  | .lt, x, y => ltD x y
  | .gt, x, y => ltD y x
  | .le, x, y => (ltD y x).map (!·)
  | .ge, x, y => (ltD x y).map (!·)
  | .mem, x, y => memD x y
  | .nmem, x, y => (memD x y).map (!·)
def idxD : PyData → PyData → Option PyData
  | .list xs, .int i => atI xs i
  | .tuple xs, .int i => atI xs i
  | .str z, .int i => if z.length ≤ line then (atI z.cps.toList i).map fun c => .str ⟨#[c]⟩ else none
  | .dict kvs, k => (keyOf k).bind fun k => look k kvs
  | _, _ => none
def cut {α : Type} (xs : List α) (lo hi : Option Int) : List α := (xs.drop (HT.sIx xs.length 0 lo)).take (HT.sIx xs.length xs.length hi - HT.sIx xs.length 0 lo)
def sliD (x : PyData) (lo hi : Option Int) : Option PyData := match x with
  | .list xs => some (.list (cut xs lo hi))
  | .tuple xs => some (.tuple (cut xs lo hi))
  | .str z => if z.length ≤ line then some (.str ⟨(cut z.cps.toList lo hi).toArray⟩) else none
  | _ => none
def revD : PyData → Option PyData
  | .list xs => some (.list xs.reverse)
  | .tuple xs => some (.tuple xs.reverse)
  | _ => none
/-- x[-2::-1] -/
def rv2D : PyData → Option PyData
  | .list xs => some (.list xs.dropLast.reverse)
  | .tuple xs => some (.tuple xs.dropLast.reverse)
  | _ => none
def intsD : List PyData → Option (List Int)
  | [] => some []
  | .int i :: r => (intsD r).map (i :: ·)
  | _ => none
def blsD : List PyData → Option (List Bool)
  | [] => some []
  | .bool i :: r => (blsD r).map (i :: ·)
  | _ => none
def insG {α : Type} (lt : α → α → Bool) (x : α) : List α → List α
  | [] => [x]
  | y :: r => if lt y x = true then y :: insG lt x r else x :: y :: r
/-- stable -/
def sortG {α : Type} (lt : α → α → Bool) : List α → List α
  | [] => []
  | x :: r => insG lt x (sortG lt r)
/-- by keys -/
def sortK (ps : List (PyData × PyData)) : List PyData := (sortG (fun p q => W.dataLt p.1 q.1) ps).map (·.2)
def seqD : PyData → Option (List PyData)
  | .list xs | .tuple xs => some xs
  | _ => none
/-- .. short enough to be walked -/
def walkD (x : PyData) : Option (List PyData) := (seqD x).bind fun xs => if xs.length ≤ line then some xs else none
def keysD : PyData → Option (List PyData)
  | .list xs | .tuple xs => some xs
  | .dict kvs => some (kvs.map (·.1))
  | _ => none
def okOrd (xs : List PyData) : Bool := (xs.all fun x => xs.all fun y => W.alike x y) && decide (PyData.depthAll xs ≤ 64) && xs.all notNone && !PyData.hasDictAll xs
def isTup1 : PyData → Bool
  | .tuple (_ :: _) => true
  | _ => false
def notTup : PyData → Bool
  | .tuple _ => false
  | _ => true
def sortable (xs : List PyData) : Bool := xs.all isTup1 || xs.all notTup
def biD : Bi → List PyData → Option PyData
  | .len, [.list xs] => some (.int xs.length)
  | .len, [.tuple xs] => some (.int xs.length)
  | .len, [.str z] => if z.length ≤ line then some (.int z.length) else none
  | .len, [.dict xs] => some (.int xs.length)
  | .abs, [.int i] => some (.int (if i < 0 then -i else i))
  | .int, [.int i] => some (.int i)
  | .int, [.bool b] => some (.int (if b then 1 else 0))
  | .int, [.str z] => if z.length ≤ 640 then (PySem.intText? z).map .int else none
  | .bool, [.int i] => some (.bool (i != 0))
  | .bool, [.bool b] => some (.bool b)
  | .min, [.int i, .int j] => some (.int (if j < i then j else i))
  | .max, [.int i, .int j] => some (.int (if j > i then j else i))
  | .max, [.int i, .int j, .int k] => some (.int (let m := if j > i then j else i; if k > m then k else m))
  | .min, [x] => (seqD x).bind fun xs => match xs with
    | [] => none
    | y :: r => if (okOrd (y :: r) && !isMut (W.minD y r)) = true then some (W.minD y r) else none
  | .max, [x] => (seqD x).bind fun xs => match xs with
    | [] => none
    | y :: r => if (okOrd (y :: r) && !isMut (W.maxD y r)) = true then some (W.maxD y r) else none
  | .sum, [.list xs] => (intsD xs).map fun ns => .int ns.sum
  | .sorted, [.list xs] => if (okOrd xs && sortable xs) = true then some (.list (sortG W.dataLt xs)) else none
  | .all, [.list xs] => (blsD xs).map fun bs => .bool (bs.all id)
  | .any, [.list xs] => (blsD xs).map fun bs => .bool (bs.any id)
  | .list, [x] => (seqD x).map fun xs => .list xs
  | .tuple, [x] => (seqD x).map fun xs => .tuple xs
  | .repr, [x] => if (x.showable && !x.hasDict && decide (x.depth ≤ 64) && decide (x.shown.length ≤ line)) = true then some (.str x.shown) else none
  | .str, [.int i] => if i.natAbs.log2 < 1920 then some (.str (toString i : String)) else none
  | _, _ => none
def place (x : PyData) : Nat → List PyData → Option Nat
  | _, [] => none
  | n, y :: r => if PyData.eqv y x = true then some n else place x (n + 1) r
def isStrD : PyData → Bool
  | .str _ => true
  | _ => false
def lstD : PyData → Option (List PyData)
  | .list xs => some xs
  | _ => none
/-- of a list -/
def metD : Me → List PyData → List PyData → Option PyData
  | .index, xs, [x] => if ((flatD x && xs.all flatD) || (SeqAt.shaped x && SeqAt.shaped (.list xs))) = true then (place x 0 xs).map fun (n : Nat) => PyData.int (n : Int) else none
  | .count, xs, [x] => if (flatD x && xs.all flatD) = true then some (.int (xs.countP fun y => PyData.eqv y x)) else none
  | _, _, _ => none
/-- the place of a text in a tuple of texts -/
def gixD : PyData → PyData → Option PyData
  | .tuple xs, .str z => if xs.all isStrD = true then (place (.str z) 0 xs).map fun (n : Nat) => PyData.int (n : Int) else none
  | _, _ => none
def isTy : PyData → Ty → Bool
  | .int _, .int => true
  | .bool _, .int => true
  | .bool _, .bool => true
  | .str _, .str => true
  | .tuple _, .tuple => true
  | .list _, .list => true
  | .dict _, .dict => true
  | _, _ => false
def iterD : PyData → Option (List PyData)
  | .list xs | .tuple xs => some xs
  | .str z => some (z.cps.toList.map fun c => .str ⟨#[c]⟩)
  | .dict kvs => some (kvs.map (·.1))
  | _ => none
def rngD (a b : Int) : List PyData := (List.range (b - a).toNat).map fun (i : Nat) => .int (a + i)
/-- how many turns of range(a, b, c) -/
def rngN (a b c : Int) : Nat := if 0 < c then ((b - a + c - 1).fdiv c).toNat else if c < 0 then ((a - b - c - 1).fdiv (-c)).toNat else 0
def rn3D (a b c : Int) : List PyData := (List.range (rngN a b c)).map fun (i : Nat) => .int (a + i * c)
def enuD (s : Int) (xs : List PyData) : List PyData := xs.zipIdx.map fun p => .tuple [.int (s + (p.2 : Nat)), p.1]
def zipD (xs ys : List PyData) : List PyData := (xs.zip ys).map fun p => .tuple [p.1, p.2]
def enuV (k : Int) (x : PyData) : Option PyData := if k.natAbs < 2 ^ 60 then (seqD x).map fun xs => .list (enuD k xs) else none
def zipV : PyData → PyData → Option PyData
  | .list xs, .list ys => some (.list (zipD xs ys))
  | .tuple xs, .tuple ys => some (.list (zipD xs ys))
  | _, _ => none
def asInt : PyData → Option Int
  | .int i => some i
  | _ => none
def allD : List Vl → Option (List PyData)
  | [] => some []
  | .d x :: r => (allD r).map (x :: ·)
  | _ => none
/-! ### slots -/
def getV (r : Env) (i : Nat) : Option Vl := match r[i]? with
  | some (some v) => some v
  | _ => none
mutual
def asg : Pa → PyData → Env → Option Env
  | .nm i, x, r => some (r.set i (some (.d x)))
  | .tup p, .tuple xs, r => asgs p xs r
  | .tup p, .list xs, r => asgs p xs r
  | _, _, _ => none
def asgs : Pa → List PyData → Env → Option Env
  | .nil, [], r => some r
  | .cons p q, x :: xs, r => (asg p x r).bind fun r' => asgs q xs r'
  | _, _, _ => none
end
def slotsP : Pa → List Nat
  | .nm i => [i]
  | .tup p => slotsP p
  | .nil => []
  | .cons p q => slotsP p ++ slotsP q
/-- the slots, unbound -/
def blank : List Nat → Env → Env
  | [], r => r
  | v :: vs, r => (blank vs r).set v none
/-- the slots whose containers an expression's value may hold on to -/
def retE : Ex → List Nat
  | .var i => [i]
  | .cons a r => retE a ++ retE r
  | .tup e | .lst e | .rev e | .vals e | .its e | .lof e | .tof e | .rv2 e => retE e
  | .dic k v => retE k ++ retE v
  | .bin _ a b => retE a ++ retE b
  | .and a b | .or a b => retE a ++ retE b
  | .ite _ a b => retE a ++ retE b
  | .idx a _ => retE a
  | .sli a _ _ => retE a
  | .call _ es => retE es
  | .bi b es => match b with
    | .min | .max | .sorted | .list | .tuple | .sum => retE es
    | _ => []
  | .comp _ it _ e => retE it ++ retE e
  | .comp2 _ it _ it2 _ e => retE it ++ retE it2 ++ retE e
  | .dcom _ it k v => retE it ++ retE k ++ retE v
  | .enu a _ => retE a
  | .zip a b => retE a ++ retE b
  | .lam _ => List.range 200
  | .srt _ a _ => retE a
  | _ => []
/-- a container that comes is new, and nobody else's -/
def fresh : Ex → Bool
  | .lst _ | .dic _ _ | .comp _ _ _ _ | .comp2 _ _ _ _ _ _ | .dcom _ _ _ _ | .bin _ _ _ | .sli _ _ _ | .rev _ | .rv2 _ | .lof _ | .srt _ _ _ => true
  | .bi b _ => match b with
    | .sorted | .list => true
    | _ => false
  | _ => false
structure Gm where
  glb : Nat → Option PyData
  cl : Nat → List Vl → Tp → Res (PyData × Bool)
  act : Ex → Env → Tp → Res PyData
  wf : Nat
/-- item by item -/
def mapT (f : PyData → Tp → Res (Option PyData)) : List PyData → Tp → Res (List PyData)
  | [], t => .ok [] t
  | x :: r, t => (f x t).bind fun y t => (mapT f r t).bind fun ys t => .ok (match y with | some z => z :: ys | none => ys) t
def mapC (f : PyData → Tp → Res (List PyData)) : List PyData → Tp → Res (List PyData)
  | [], t => .ok [] t
  | x :: r, t => (f x t).bind fun y t => (mapC f r t).bind fun ys t => .ok (y ++ ys) t
def putAll (kvs : List (PyData × PyData)) : List PyData → List PyData → Option (List (PyData × PyData))
  | [], [] => some kvs
  | k :: ks, v :: vs => (keyOf k).bind fun k => putAll (put k v kvs) ks vs
  | _, _ => none
/-- pairs put one after another -/
def putPs (kvs : List (PyData × PyData)) : List PyData → Option (List (PyData × PyData))
  | [] => some kvs
  | .tuple [k, v] :: r => (keyOf k).bind fun k => putPs (put k v kvs) r
  | _ => none
/-- within a comprehension nothing is raised -/
def Res.quiet {α : Type} : Res α → Res α
  | .exc _ _ _ => .bad
  | r => r
def isNil : Ex → Bool
  | .nil => true
  | _ => false
/-- a part of a slice -/
def part (n : Bool) (q : Tp → Res PyData) (t : Tp) : Res (Option Int) := if n = true then .ok none t else (q t).bind fun x t => lift ((asInt x).map some) t
/-- a comprehension's test -/
def test (n : Bool) (q : Tp → Res PyData) (t : Tp) : Res Bool := if n = true then .ok true t else (q t).bind fun x t => lift (truthD x) t
def shut (r : Env) : List (Option PyData) := r.map fun o => match o with
  | some (.d x) => some x
  | _ => none
mutual
def ev (g : Gm) : Ex → Env → Tp → Res PyData
  | .var i, r, t => match getV r i with
    | some (.d x) => .ok x t
    | _ => .bad
  | .non, _, t => .ok .none t
  | .bl b, _, t => .ok (.bool b) t
  | .int i, _, t => .ok (.int i) t
  | .str s, _, t => .ok (.str s) t
  | .glb k, _, t => lift (g.glb k) t
  | .tup es, r, t => (evs g es r t).bind fun vs t => lift ((allD vs).map .tuple) t
  | .lst es, r, t => (evs g es r t).bind fun vs t => lift ((allD vs).map .list) t
  | .dic ks vs, r, t => (evs g ks r t).bind fun as t => (evs g vs r t).bind fun bs t => lift ((allD as).bind fun as => (allD bs).bind fun bs => (putAll [] as bs).map .dict) t
  | .bin o a b, r, t => (ev g a r t).bind fun x t => (ev g b r t).bind fun y t => lift (binD o x y) t
  | .neg a, r, t => (ev g a r t).bind fun x t => lift ((asInt x).map fun i => .int (-i)) t
  | .not a, r, t => (ev g a r t).bind fun x t => lift ((truthD x).map fun b => .bool (!b)) t
  | .and a b, r, t => (ev g a r t).bind fun x t => (lift (truthD x) t).bind fun c t => if c = true then ev g b r t else .ok x t
  | .or a b, r, t => (ev g a r t).bind fun x t => (lift (truthD x) t).bind fun c t => if c = true then .ok x t else ev g b r t
  | .cmp o a b, r, t => (ev g a r t).bind fun x t => (ev g b r t).bind fun y t => lift ((cmpD o x y).map .bool) t
  | .cm2 o p a b c, r, t => (ev g a r t).bind fun x t => (ev g b r t).bind fun y t => (lift (cmpD o x y) t).bind fun k t =>
      if k = true then (ev g c r t).bind fun z t => lift ((cmpD p y z).map .bool) t else .ok (.bool false) t
  | .isn a, r, t => (ev g a r t).bind fun x t => .ok (.bool (!notNone x)) t
  | .nsn a, r, t => (ev g a r t).bind fun x t => .ok (.bool (notNone x)) t
  | .ite c a b, r, t => (ev g c r t).bind fun x t => (lift (truthD x) t).bind fun k t => if k = true then ev g a r t else ev g b r t
  | .idx a i, r, t => (ev g a r t).bind fun x t => (ev g i r t).bind fun y t => lift (idxD x y) t
  | .tix i k, r, t => match getV r i with
    | some .tp => (ev g k r t).bind fun y t => match t with
      | some ts => lift (idxD (.list ts) y) (some ts)
      | none => .bad
    | _ => .bad
  | .scs i lo hi, r, t => match getV r i with
    | some (.scr ns) => (part (isNil lo) (ev g lo r) t).bind fun l t => (part (isNil hi) (ev g hi r) t).bind fun h t => .ok (.list (cut (ns.map .int) l h)) t
    | _ => .bad
  | .sli a lo hi, r, t => (ev g a r t).bind fun x t => (part (isNil lo) (ev g lo r) t).bind fun l t => (part (isNil hi) (ev g hi r) t).bind fun h t => lift (sliD x l h) t
  | .rev a, r, t => (ev g a r t).bind fun x t => lift (revD x) t
  | .call f es, r, t => (evs g es r t).bind fun vs t => (g.cl f vs t).bind fun x t => .ok x.1 t
  | .bi b es, r, t => (evs g es r t).bind fun vs t => lift ((allD vs).bind (biD b)) t
  | .isi a ts, r, t => (ev g a r t).bind fun x t => .ok (.bool (ts.any (isTy x))) t
  | .met m o es, r, t => (ev g o r t).bind fun x t => (lift (lstD x) t).bind fun xs t => (evs g es r t).bind fun vs t => lift ((allD vs).bind (metD m xs)) t
  | .gix k e, r, t => (ev g e r t).bind fun x t => lift ((g.glb k).bind fun d => gixD d x) t
  | .comp p it c e, r, t => (ev g it r t).bind fun xs t => (lift (walkD xs) t).bind fun xs t => ((mapT (fun x t => (lift (asg p x (blank (slotsP p) r)) t).bind fun r t =>
      (test (isNil c) (ev g c r) t).bind fun k t => if k = true then (ev g e r t).bind fun y t => .ok (some y) t else .ok none t) xs t).bind fun ys t => lift (some (.list ys)) t).quiet
  | .comp2 p it q it2 c e, r, t => (ev g it r t).bind fun xs t => (lift (walkD xs) t).bind fun xs t => ((mapC (fun x t => (lift (asg p x (blank (slotsP p ++ slotsP q) r)) t).bind fun r t =>
      (ev g it2 r t).bind fun zs t => (lift (walkD zs) t).bind fun zs t => mapT (fun z t => (lift (asg q z (blank (slotsP q) r)) t).bind fun r t => (test (isNil c) (ev g c r) t).bind fun k t => if k = true then (ev g e r t).bind fun y t => .ok (some y) t else .ok none t) zs t) xs t).bind fun ys t => lift (some (.list ys)) t).quiet
  | .dcom p it k v, r, t => (ev g it r t).bind fun xs t => (lift (walkD xs) t).bind fun xs t => ((mapT (fun x t => (lift (asg p x (blank (slotsP p) r)) t).bind fun r t =>
      (ev g k r t).bind fun a t => (ev g v r t).bind fun b t => .ok (some (.tuple [a, b])) t) xs t).bind fun ys t =>
        lift ((putPs [] ys).map .dict) t).quiet
  | .lof a, r, t => (ev g a r t).bind fun x t => lift ((iterD x).map .list) t
  | .tof a, r, t => (ev g a r t).bind fun x t => lift ((iterD x).map .tuple) t
  | .rv2 a, r, t => (ev g a r t).bind fun x t => lift (rv2D x) t
  | .srt p a k, r, t => (ev g a r t).bind fun x t => (lift (walkD x) t).bind fun xs t => ((mapT (fun x t => (lift (asg p x (blank (slotsP p) r)) t).bind fun r t =>
      (ev g k r t).bind fun y t => .ok (some y) t) xs t).bind fun ks t => lift (if (okOrd ks && sortable ks) = true then some (.list (sortK (ks.zip xs))) else none) t).quiet
  | .act i, r, t => match getV r i with
    | some (.lam b q) => g.act b (q.map fun o => o.map .d) t
    | _ => .bad
  | .isx i c, r, t => match getV r i with
    | some (.exc d _) => .ok (.bool (decide (c = d) || decide (c = 1000))) t
    | _ => .bad
  | .plc i, r, t => match getV r i with
    | some (.exc _ [x]) => .ok x t
    | _ => .bad
  | .rng a b, r, t => (ev g a r t).bind fun x t => (ev g b r t).bind fun y t => lift ((asInt x).bind fun i => (asInt y).bind fun j => if i.natAbs < 2 ^ 60 ∧ j.natAbs < 2 ^ 60 then some (.list (rngD i j)) else none) t
  | .rn3 a b c, r, t => (ev g a r t).bind fun x t => (ev g b r t).bind fun y t => (ev g c r t).bind fun z t => lift ((asInt x).bind fun i => (asInt y).bind fun j => (asInt z).bind fun k => if i.natAbs < 2 ^ 60 ∧ j.natAbs < 2 ^ 60 ∧ k ≠ 0 ∧ k.natAbs < 2 ^ 20 then some (.list (rn3D i j k)) else none) t
  | .enu a s, r, t => (ev g a r t).bind fun x t => (part (isNil s) (ev g s r) t).bind fun k t => lift (enuV (k.getD 0) x) t
  | .zip a b, r, t => (ev g a r t).bind fun x t => (ev g b r t).bind fun y t => lift (zipV x y) t
  | .vals a, r, t => (ev g a r t).bind fun x t => lift (match x with | .dict kvs => some (.list (kvs.map (·.2))) | _ => none) t
  | .its a, r, t => (ev g a r t).bind fun x t => lift (match x with | .dict kvs => some (.list (kvs.map fun p => .tuple [p.1, p.2])) | _ => none) t
  | .nil, _, _ | .cons _ _, _, _ | .tpv _, _, _ | .scv _, _, _ | .lam _, _, _ => .bad
/-- an argument list -/
def evs (g : Gm) : Ex → Env → Tp → Res (List Vl)
  | .nil, _, t => .ok [] t
  | .cons (.tpv i) q, r, t => match getV r i with
    | some .tp => (evs g q r t).bind fun xs t => .ok (.tp :: xs) t
    | _ => .bad
  | .cons (.scv i) q, r, t => match getV r i with
    | some (.scr ns) => (evs g q r t).bind fun xs t => .ok (.scr ns :: xs) t
    | _ => .bad
  | .cons (.lam b) q, r, t => (evs g q r t).bind fun xs t => .ok (.lam b (shut r) :: xs) t
  | .cons a q, r, t => (ev g a r t).bind fun x t => (evs g q r t).bind fun xs t => .ok (.d x :: xs) t
  | _, _, _ => .bad
end
/-- at a statement's root: whether a container that comes is new -/
def evR (g : Gm) : Ex → Env → Tp → Res (PyData × Bool)
  | .call f es, r, t => (evs g es r t).bind fun vs t => g.cl f vs t
  | .ite c a b, r, t => (ev g c r t).bind fun x t => (lift (truthD x) t).bind fun k t => if k = true then evR g a r t else evR g b r t
  | e, r, t => (ev g e r t).bind fun x t => .ok (x, fresh e) t
structure Stt where
  r : Env
  fl : List Bool
  t : Tp
inductive Out where
  | nx (s : Stt) | rt (x : PyData) (m : Bool) (t : Tp) | ex (c : Nat) (p : List PyData) (s : Stt) | bad
def Res.out {α : Type} (q : Res α) (s : Stt) (f : α → Tp → Out) : Out := match q with
  | .ok a t => f a t
  | .exc c p t => .ex c p { s with t := t }
  | .bad => .bad
def fz (fl : List Bool) : List Nat → List Bool
  | [] => fl
  | i :: r => fz (fl.set i false) r
/-- what is kept is frozen -/
def fzx (x : PyData) (e : Ex) (fl : List Bool) : List Bool := if isCont x = true then fz fl (retE e) else fl
def own (s : Stt) (i : Nat) : Option PyData := match s.fl[i]?, getV s.r i with
  | some true, some (.d x) => some x
  | _, _ => none
def setD (s : Stt) (i : Nat) (x : PyData) : Env := s.r.set i (some (.d x))
/-- a name's container, its owner's -/
def ownV (fl : List Bool) : Ex → Bool
  | .var i => fl.getD i false
  | _ => false
def evFor (p : Pa) (body : Stt → Out) : List PyData → Stt → Out
  | [], s => .nx s
  | x :: xs, s => match asg p x s.r with
    | none => .bad
    | some r => match body ⟨r, fz s.fl (slotsP p), s.t⟩ with
      | .nx s => evFor p body xs s
      | o => o
def evWhl (c : Stt → Res Bool) (body : Stt → Out) : Nat → Stt → Out
  | 0, _ => .bad
  | n + 1, s => (c s).out s fun k t => if k = true then (match body { s with t := t } with
      | .nx s => evWhl c body n s
      | o => o) else .nx { s with t := t }
/-- the item at k of a container, set -/
def stoD (x k v : PyData) : Option PyData := match x with
  | .list xs => (asInt k).bind fun i => (ixN xs.length i).map fun j => .list (xs.set j v)
  | .dict kvs => (keyOf k).bind fun k => if kvs.length < line then some (.dict (put k v kvs)) else none
  | _ => none
/-- x += y, x -= y, of whole numbers -/
def augD : BOp → Int → Int → Option Int
  | .add, a, b => some (a + b)
  | .sub, a, b => some (a - b)
  | _, _, _ => none
/-- caught errors are let go -/
def unexc (r : Env) : Env := r.map fun o => match o with
  | some (.exc _ _) => none
  | o => o
def evS (g : Gm) : St → Stt → Out
  | .nop, s => .nx s
  | .seq a b, s => match evS g a s with
    | .nx s => evS g b s
    | o => o
  | .set p e, s => (evR g e s.r s.t).out s fun x t => match asg p x.1 s.r with
    | none => .bad
    | some r => .nx ⟨r, match p with
      | .nm i => (fzx x.1 e s.fl).set i (x.2 && isMut x.1)
      | p => fz (fzx x.1 e s.fl) (slotsP p), t⟩
  | .par i j a b, s => (evR g a s.r s.t).out s fun x t => (evR g b s.r t).out s fun y t =>
      .nx ⟨(s.r.set i (some (.d x.1))).set j (some (.d y.1)), ((fzx y.1 b (fzx x.1 a s.fl)).set i (x.2 && isMut x.1)).set j (y.2 && isMut y.1), t⟩
  | .aug i o e, s => match getV s.r i with
    | some (.d (.int a)) => (ev g e s.r s.t).out s fun y t => match y with
      | .int b => (match augD o a b with
        | some z => .nx ⟨setD s i (.int z), (fzx (.int z) e s.fl).set i false, t⟩
        | none => .bad)
      | _ => .bad
    | _ => .bad
  | .app i e, s => match own s i with
    | some (.list _) => (ev g e s.r s.t).out s fun x t => match own { s with fl := fzx x e s.fl } i with
      | some (.list xs) => if xs.length < line then .nx ⟨setD s i (.list (xs ++ [x])), fzx x e s.fl, t⟩ else .bad
      | _ => .bad
    | _ => .bad
  | .ext i e, s => match own s i with
    | some (.list _) => (ev g e s.r s.t).out s fun x t => match own { s with fl := fzx x e s.fl } i, x with
      | some (.list xs), .list ys => if xs.length + ys.length ≤ line then .nx ⟨setD s i (.list (xs ++ ys)), fzx x e s.fl, t⟩ else .bad
      | _, _ => .bad
    | _ => .bad
  | .sto i k e, s => (ev g e s.r s.t).out s fun x t => (ev g k s.r t).out s fun y t => match own { s with fl := fzx y k (fzx x e s.fl) } i with
    | some z => match stoD z y x with
      | some z => .nx ⟨setD s i z, fzx y k (fzx x e s.fl), t⟩
      | none => .bad
    | _ => .bad
  | .aui i k o e, s => (ev g k s.r s.t).out s fun y t => match own s i with
    | some z => match idxD z y with
      | some u => (ev g e s.r t).out s fun x t => match binD o u x with
        | some v => if isCont v = true then .bad else match stoD z y v with
          | some z => .nx ⟨setD s i z, fzx y k s.fl, t⟩
          | none => .bad
        | none => .bad
      | none => .bad
    | none => .bad
  | .tst i k e, s => (ev g e s.r s.t).out s fun x t => match getV s.r i with
    | some .tp => (ev g k s.r t).out s fun y t => match t with
      | some ts => if isCont x = true then .bad else match stoD (.list ts) y x with
        | some (.list ts) => .nx { s with t := some ts }
        | _ => .bad
      | none => .bad
    | _ => .bad
  | .upd i e, s => (ev g e s.r s.t).out s fun x t => match own { s with fl := fzx x e s.fl } i, x with
    | some (.dict a), .dict b => .nx ⟨setD s i (.dict (b.foldl (fun d p => match keyOf p.1 with | some k => put k p.2 d | none => d) a)), fzx x e s.fl, t⟩
    | _, _ => .bad
  | .apo i j e, s => (ev g e s.r s.t).out s fun x t => match own s i, own s j with
    | some (.list xs), some (.list ys) => (match asInt x with
      | some k => (match ixN ys.length k with
        | some n => (match ys[n]? with
          | some y => if xs.length < line then .nx ⟨(s.r.set j (some (.d (.list (ys.eraseIdx n))))).set i (some (.d (.list (xs ++ [y])))), s.fl, t⟩ else .bad
          | none => .bad)
        | none => .bad)
      | none => .bad)
    | _, _ => .bad
  | .ret e, s => (evR g e s.r s.t).out s fun x t => .rt x.1 (x.2 || ownV s.fl e) t
  | .retn, s => .rt .none false s.t
  | .ife c a b, s => ((ev g c s.r s.t).bind fun x t => lift (truthD x) t).out s fun k t => if k = true then evS g a { s with t := t } else evS g b { s with t := t }
  | .forr p it b, s => ((ev g it s.r s.t).bind fun x t => lift (walkD x) t).out s fun xs t => evFor p (evS g b) xs ⟨s.r, fz s.fl (retE it), t⟩
  | .whl c b, s => evWhl (fun s => (ev g c s.r s.t).bind fun x t => lift (truthD x) t) (evS g b) g.wf s
  | .rai c es, s => (evs g es s.r s.t).out s fun vs t => match allD vs with
    | some ps => .ex c ps { s with t := t }
    | none => .bad
  | .tryx b i h, s => match evS g b s with
    | .ex c p s' => (match evS g h { s' with r := s'.r.set i (some (.exc c p)), fl := s'.fl.set i false } with
      | .nx s => .nx { s with r := s.r.set i none, fl := s.fl.set i false }
      | o => o)
    | o => o
  | .tryl i h, s => match ev g (.act 0) s.r s.t with
    | .ok _ t => .nx { s with t := t }
    | .exc c p t => (match evS g h ⟨(List.replicate s.r.length none).set i (some (.exc c p)), List.replicate s.r.length false, t⟩ with
      | .nx s' => .nx ⟨(unexc s'.r).set i none, s'.fl.set i false, s'.t⟩
      | _ => .bad)
    | .bad => .bad
  | .trya j i h, s => match ev g (.act 0) s.r s.t with
    | .ok y t => .nx ⟨s.r.set j (some (.d y)), (fzx y (.act 0) s.fl).set j false, t⟩
    | .exc c p t => (match evS g h ⟨(List.replicate s.r.length none).set i (some (.exc c p)), List.replicate s.r.length false, t⟩ with
      | .nx s' => .nx ⟨(unexc s'.r).set i none, s'.fl.set i false, s'.t⟩
      | _ => .bad)
    | .bad => .bad
  | .exp e, s => (ev g e s.r s.t).out s fun _ t => .nx { s with t := t }
  | .stp i e, s => match s.t with
    | none => (evR g e s.r s.t).out s fun x t => match x with
      | (.list ts, true) => .nx ⟨s.r.set i (some .tp), fz s.fl (i :: retE e), some ts⟩
      | _ => .bad
    | some _ => .bad
structure Fn where
  ar : Nat
  sl : Nat
  body : St
/-- the call of a def at a depth -/
def cal (gl : Nat → Option PyData) (fns : List Fn) (wf : Nat) : Nat → Gm
  | 0 => { glb := gl, cl := fun _ _ _ => .bad, act := fun _ _ _ => .bad, wf := wf }
  | n + 1 => { glb := gl, wf := wf, act := fun b r t => ev (cal gl fns wf n) b r t, cl := fun f vs t => match fns[f]? with
      | some F => if vs.length = F.ar then (match evS (cal gl fns wf n) F.body ⟨vs.map some ++ List.replicate (F.sl - F.ar) none, List.replicate F.sl false, t⟩ with
        | .rt x m t => .ok (x, m) t
        | .nx s => .ok (.none, false) s.t
        | .ex c p s => .exc c p s.t
        | .bad => .bad) else .bad
      | none => .bad }
end Ev

set_option Elab.async false
set_option autoImplicit false
set_option linter.all false
set_option maxRecDepth 100000
set_option maxHeartbeats 1000000
/-! How the evaluator's state lies in the abstract heap. -/
namespace Ev
open PySem PySem.Spec PyProof.Rows L2

/-- the address is read as a list of the values xs, within the footprint A -/
def LsA (H : Hp) (A : Addr → Prop) (a : Addr) (xs : List V) : Prop := H a = some (.lst xs) ∧ A a
theorem LsA.sq {K : PySem.W.Frag} {H : Hp} {A : Addr → Prop} {a : Addr} {xs : List V} (h : LsA H A a xs) : SqL K H a xs := .inl (.inl h.1)
mutual
/-- the value stands for the datum; the lists and dicts on the way lie in A -/
inductive Rp (K : PySem.W.Frag) (H : Hp) (A : Addr → Prop) : V → PyData → Prop
  | non : Rp K H A .non .none
  | bl (b : Bool) : Rp K H A (.bl b) (.bool b)
  | int (i : Int) : Rp K H A (.int i) (.int i)
  | str (x : Str) : Rp K H A (.str x) (.str x)
  | lst {a : Addr} {xs : List V} {ds : List PyData} : LsA H A a xs → RpA K H A xs ds → Rp K H A (.ref a) (.list ds)
  | tup {a : Addr} {xs : List V} {ds : List PyData} : SqT K H a xs → RpA K H A xs ds → Rp K H A (.ref a) (.tuple ds)
  | dic {a : Addr} {kvs : List (Key × V)} {ds : List (PyData × PyData)} : H a = some (.dK kvs) → A a → RpK K H A kvs ds → Rp K H A (.ref a) (.dict ds)
inductive RpA (K : PySem.W.Frag) (H : Hp) (A : Addr → Prop) : List V → List PyData → Prop
  | nil : RpA K H A [] []
  | cons {v : V} {vs : List V} {d : PyData} {ds : List PyData} : Rp K H A v d → RpA K H A vs ds → RpA K H A (v :: vs) (d :: ds)
inductive RpK (K : PySem.W.Frag) (H : Hp) (A : Addr → Prop) : List (Key × V) → List (PyData × PyData) → Prop
  | nil : RpK K H A [] []
  | cons {k : Key} {v : V} {kvs : List (Key × V)} {d : PyData} {ds : List (PyData × PyData)} : Rp K H A v d → RpK K H A kvs ds → RpK K H A ((k, v) :: kvs) ((datK k, d) :: ds)
end
/-- what of A, of the tuples and of what is known stays -/
structure Keep (A : Addr → Prop) (H H' : Hp) : Prop where
  e : ∀ b p, H b = some (.ext p) → H' b = some (.ext p)
  a : ∀ b o, A b → H b = some o → H' b = some o
  t : ∀ b xs, H b = some (.tup xs) → H' b = some (.tup xs)
  f : ∀ b o u, H b = some (.frz o u) → H' b = some (.frz o u)
theorem Keep.refl {A : Addr → Prop} {H : Hp} : Keep A H H := ⟨fun _ _ h => h, fun _ _ _ h => h, fun _ _ h => h, fun _ _ _ h => h⟩
section
variable {K : PySem.W.Frag} {H H' : Hp} {A B : Addr → Prop}
theorem LsA.keep {a : Addr} {xs : List V} (h : LsA H A a xs) (k : Keep A H H') (s : ∀ a, A a → B a) : LsA H' B a xs := ⟨k.a _ _ h.2 h.1, s _ h.2⟩
theorem sqT_keep {a : Addr} {xs : List V} (h : SqT K H a xs) (k : Keep A H H') : SqT K H' a xs := by
  rcases h with h | h
  · rcases h with h | ⟨o, h⟩
    · exact .inl (.inl (k.t _ _ h))
    · exact .inl (.inr ⟨o, k.f _ _ _ h⟩)
  · exact .inr h
mutual
theorem Rp.keep {v : V} {d : PyData} (h : Rp K H A v d) (k : Keep A H H') (s : ∀ a, A a → B a) : Rp K H' B v d := by
  cases h with
  | non => exact .non
  | bl b => exact .bl b
  | int i => exact .int i
  | str x => exact .str x
  | lst h1 h2 => exact .lst (h1.keep k s) (RpA.keep h2 k s)
  | tup h1 h2 => exact .tup (sqT_keep h1 k) (RpA.keep h2 k s)
  | dic h1 h2 h3 => exact .dic (k.a _ _ h2 h1) (s _ h2) (RpK.keep h3 k s)
theorem RpA.keep {v : List V} {d : List PyData} (h : RpA K H A v d) (k : Keep A H H') (s : ∀ a, A a → B a) : RpA K H' B v d := by
  cases h with
  | nil => exact .nil
  | cons h1 h2 => exact .cons (Rp.keep h1 k s) (RpA.keep h2 k s)
theorem RpK.keep {v : List (Key × V)} {d : List (PyData × PyData)} (h : RpK K H A v d) (k : Keep A H H') (s : ∀ a, A a → B a) : RpK K H' B v d := by
  cases h with
  | nil => exact .nil
  | cons h1 h2 => exact .cons (Rp.keep h1 k s) (RpK.keep h2 k s)
end
theorem Rp.mono {v : V} {d : PyData} (h : Rp K H A v d) (s : ∀ a, A a → B a) : Rp K H B v d := h.keep .refl s
theorem RpA.mono {v : List V} {d : List PyData} (h : RpA K H A v d) (s : ∀ a, A a → B a) : RpA K H B v d := h.keep .refl s
theorem RpK.mono {v : List (Key × V)} {d : List (PyData × PyData)} (h : RpK K H A v d) (s : ∀ a, A a → B a) : RpK K H B v d := h.keep .refl s
theorem RpA.len : ∀ {v : List V} {d : List PyData}, RpA K H A v d → v.length = d.length
  | _, _, .nil => rfl
  | _, _, .cons _ t => congrArg Nat.succ (RpA.len t)
theorem RpA.get : ∀ {v : List V} {d : List PyData} {i : Nat} {x : PyData}, RpA K H A v d → d[i]? = some x → ∃ u, v[i]? = some u ∧ Rp K H A u x
  | _, _, _, _, .nil, e => by simp at e
  | _, _, 0, _, .cons r _, e => by simp at e; subst e; exact ⟨_, rfl, r⟩
  | _, _, i + 1, x, .cons _ t, e => by
    obtain ⟨u, h1, h2⟩ := RpA.get (i := i) (x := x) t (by simpa using e)
    exact ⟨u, by simpa using h1, h2⟩
theorem RpA.get' : ∀ {v : List V} {d : List PyData} {i : Nat} {u : V}, RpA K H A v d → v[i]? = some u → ∃ x, d[i]? = some x ∧ Rp K H A u x
  | _, _, _, _, .nil, e => by simp at e
  | _, _, 0, _, .cons r _, e => by simp at e; subst e; exact ⟨_, rfl, r⟩
  | _, _, i + 1, x, .cons _ t, e => by
    obtain ⟨u, h1, h2⟩ := RpA.get' (i := i) (u := x) t (by simpa using e)
    exact ⟨u, by simpa using h1, h2⟩
theorem RpA.app : ∀ {v w : List V} {d e : List PyData}, RpA K H A v d → RpA K H A w e → RpA K H A (v ++ w) (d ++ e)
  | _, _, _, _, .nil, s => s
  | _, _, _, _, .cons r t, s => .cons r (RpA.app t s)
theorem RpA.take : ∀ {v : List V} {d : List PyData} (n : Nat), RpA K H A v d → RpA K H A (v.take n) (d.take n)
  | _, _, 0, _ => .nil
  | _, _, _ + 1, .nil => .nil
  | _, _, n + 1, .cons r t => .cons r (RpA.take n t)
theorem RpA.drop : ∀ {v : List V} {d : List PyData} (n : Nat), RpA K H A v d → RpA K H A (v.drop n) (d.drop n)
  | _, _, 0, r => r
  | _, _, _ + 1, .nil => .nil
  | _, _, n + 1, .cons _ t => RpA.drop n t
theorem RpA.set {u : V} {x : PyData} (r : Rp K H A u x) : ∀ {v : List V} {d : List PyData} (i : Nat), RpA K H A v d → RpA K H A (v.set i u) (d.set i x)
  | _, _, _, .nil => .nil
  | _, _, 0, .cons _ t => .cons r t
  | _, _, i + 1, .cons q t => .cons q (RpA.set r i t)
theorem RpA.erase : ∀ {v : List V} {d : List PyData} (i : Nat), RpA K H A v d → RpA K H A (v.eraseIdx i) (d.eraseIdx i)
  | _, _, _, .nil => .nil
  | _, _, 0, .cons _ t => t
  | _, _, i + 1, .cons q t => .cons q (RpA.erase i t)
theorem RpA.rev {v : List V} {d : List PyData} (h : RpA K H A v d) : RpA K H A v.reverse d.reverse := by
  induction v generalizing d with
  | nil => cases h; exact .nil
  | cons x xs ih =>
    cases h with
    | cons r t =>
      rw [List.reverse_cons, List.reverse_cons]
      exact RpA.app (ih t) (.cons r .nil)
theorem RpA.one {u : V} {x : PyData} (r : Rp K H A u x) : RpA K H A [u] [x] := .cons r .nil
mutual
/-- no dict within -/
theorem Rp.dp {v : V} {d : PyData} (h : Rp K H A v d) (n : d.hasDict = false) : Dp K H v d := by
  cases h with
  | non => exact .non
  | bl b => exact .bl b
  | int i => exact .int i
  | str x => exact .str x
  | lst h1 h2 => exact .lst h1.sq (RpA.dp h2 (by simpa [PyData.hasDict] using n))
  | tup h1 h2 => exact .tup h1 (RpA.dp h2 (by simpa [PyData.hasDict] using n))
  | dic h1 h2 h3 => simp [PyData.hasDict] at n
theorem RpA.dp {v : List V} {d : List PyData} (h : RpA K H A v d) (n : PyData.hasDictAll d = false) : DpAll K H v d := by
  cases h with
  | nil => exact .nil
  | cons h1 h2 =>
    rw [PyData.hasDictAll, Bool.or_eq_false_iff] at n
    exact .cons (Rp.dp h1 n.1) (RpA.dp h2 n.2)
end
end

/-- plain mutable objects -/
def Pl : HO → Prop
  | .lst _ => True
  | .dK _ => True
  | .dT _ => True
  | _ => False
/-- a lambda that was handed over: the slot's name, the function object, its code and name, the frame that made it -/
structure LmC where
  a : Str
  f : Addr
  c : Addr
  q : Str
  b : Ex
  σ : L2.St
structure TpS where
  tb : List (Addr × Str)
  xc : Option (Addr × Nat)
  lm : Option LmC
def TpS.base (s : TpS) : TpS := ⟨s.tb, none, none⟩
structure TpA where
  a : Option Addr
  f : Addr → Prop
  s : TpS
/-- all but the tape and the tables of code stays -/
structure NX (aT : TpA) (H H' : Hp) : Prop where
  k : ∀ a o, H a = some o → aT.a ≠ some a → (∀ ps, o ≠ .tbl ps) → H' a = some o
theorem NX.refl {aT : TpA} {H : Hp} : NX aT H H := ⟨fun _ _ h _ _ => h⟩
theorem NX.trans {aT : TpA} {H H1 H2 : Hp} (a : NX aT H H1) (b : NX aT H1 H2) : NX aT H H2 := ⟨fun c o h n t => b.k c o (a.k c o h n t) n t⟩
theorem NX.ext {aT : TpA} {H H' : Hp} (h : ∀ a o, H a = some o → H' a = some o) : NX aT H H' := ⟨fun a o e _ _ => h a o e⟩
/-- nothing of ours lies there -/
def Nw (H : Hp) (a : Addr) : Prop := ∀ o, H a = some o → ∃ ps, o = .tbl ps
theorem Nw.of {H : Hp} {a : Addr} (h : H a = none) : Nw H a := fun o e => by rw [h] at e; cases e
theorem Nw.no {H : Hp} {a : Addr} {o : HO} (h : Nw H a) (e : H a = some o) (n : ∀ ps, o ≠ .tbl ps) : False := let ⟨ps, q⟩ := h o e; n ps q
abbrev Flg := Nat → Bool
/-- the script: known to its object, or an object of the module -/
def ScrR (K : PySem.W.Frag) (A : Addr → Prop) (H : Hp) (a : Addr) (ns : List Int) : Prop :=
  (∃ ob, H a = some (.frz ob (.lst (ns.map V.int)))) ∨
    (∃ (o : Obj) (its : Array Value) (n : Nat), K.lookup a = some o ∧ o.cls = .type "list" ∧ o.dict = none ∧ o.data = .seq its n ∧ its.size ≤ sizeLine ∧ Vals (ns.map V.int) its.toList) ∨
    (A a ∧ H a = some (.lst (ns.map V.int)))
theorem ScrR.sq {K : PySem.W.Frag} {A : Addr → Prop} {H : Hp} {a : Addr} {ns : List Int} (h : ScrR K A H a ns) : SqL K H a (ns.map V.int) := by
  rcases h with ⟨ob, h⟩ | h | h
  · exact .inl (.inr ⟨ob, h⟩)
  · exact .inr h
  · exact .inl (.inl h.2)
theorem ScrR.keep {K : PySem.W.Frag} {A B : Addr → Prop} {H H' : Hp} {a : Addr} {ns : List Int} (h : ScrR K A H a ns) (k : Keep A H H') (s : ∀ a, A a → B a) : ScrR K B H' a ns := by
  rcases h with ⟨ob, h⟩ | h | h
  · exact .inl ⟨ob, k.f _ _ _ h⟩
  · exact .inr (.inl h)
  · exact .inr (.inr ⟨s a h.1, k.a _ _ h.1 h.2⟩)
/-- what a frame owns: a list, a dict that nobody else holds -/
def OwR (K : PySem.W.Frag) (aT : TpA) (F : Addr → Prop) (H : Hp) (x : V) (v : Vl) : Prop :=
  ∃ a, x = .ref a ∧ ¬ F a ∧ aT.a ≠ some a ∧ ((∃ xs ds, v = .d (.list ds) ∧ H a = some (.lst xs) ∧ RpA K H F xs ds) ∨ (∃ kvs ds, v = .d (.dict ds) ∧ H a = some (.dK kvs) ∧ RpK K H F kvs ds))
/-- a lambda's frame, as it is seen: data alone -/
structure LmR (K : PySem.W.Frag) (F : Addr → Prop) (H : Hp) (r : List (Option PyData)) (σ : L2.St) : Prop where
  len : σ.length = r.length
  slot : ∀ (i : Nat) y, r[i]? = some (some y) → ∃ x, σ[i]? = some (some x) ∧ Rp K H F x y
theorem LmR.keep {K : PySem.W.Frag} {F F' : Addr → Prop} {H H' : Hp} {r : List (Option PyData)} {σ : L2.St} (h : LmR K F H r σ) (k : Keep F H H') (s : ∀ a, F a → F' a) : LmR K F' H' r σ := ⟨h.len, fun i y e => by
  obtain ⟨x, h1, h2⟩ := h.slot i y e
  exact ⟨x, h1, h2.keep k s⟩⟩
/-- a slot -/
def SltR (K : PySem.W.Frag) (aT : TpA) (F : Addr → Prop) (H : Hp) (own : Bool) (x : V) (v : Vl) : Prop := if own = true then OwR K aT F H x v else match v with
  | .d y => Rp K H F x y
  | .tp => ∃ a, x = .ref a ∧ aT.a = some a
  | .scr ns => ∃ a, x = .ref a ∧ ScrR K F H a ns
  | .lam b r => ∃ lm, aT.s.lm = some lm ∧ x = .ref lm.f ∧ b = lm.b ∧ H lm.c = some (LamX.CodeO lm.c lm.q) ∧ LmR K F H r lm.σ
  | .exc c _ => ∃ a, x = .ref a ∧ aT.s.xc = some (a, c)
/-- what lies under a frame: what is frozen, the tape, the tables of code -/
structure TR (K : PySem.W.Frag) (aT : TpA) (F : Addr → Prop) (t : Tp) (H : Hp) : Prop where
  dom : ∀ a, F a → ∃ o, H a = some o ∧ Pl o
  tape : ∀ ts, t = some ts → ∃ a xs, aT.a = some a ∧ H a = some (.lst xs) ∧ ¬ F a ∧ (∀ b, aT.f b → F b) ∧ RpA K H aT.f xs ts
  none : t = none → aT.a = none
  tabs : LamX.Tabs aT.s.tb H
structure Rel (K : PySem.W.Frag) (aT : TpA) (F : Addr → Prop) (fl : Flg) (r : Env) (t : Tp) (σ : L2.St) (H : Hp) : Prop extends TR K aT F t H where
  len : σ.length = r.length
  slot : ∀ i v, getV r i = some v → ∃ x, σ[i]? = some (some x) ∧ SltR K aT F H (fl i) x v
  own : ∀ i, fl i = true → ∃ v, getV r i = some v
  dis : ∀ i j a, fl i = true → fl j = true → σ[i]? = some (some (.ref a)) → σ[j]? = some (some (.ref a)) → i = j
/-- from one heap and what is frozen there to the next -/
structure Go (aT : TpA) (F : Addr → Prop) (H : Hp) (F1 : Addr → Prop) (H1 : Hp) : Prop where
  nx : NX aT H H1
  gr : ∀ a, F a → F1 a
  nw : ∀ a, F1 a → F a ∨ Nw H a
  no : ∀ a, Nw H1 a → Nw H a
theorem Go.refl {aT : TpA} {F : Addr → Prop} {H : Hp} : Go aT F H F H := ⟨.refl, fun _ h => h, fun _ h => .inl h, fun _ h => h⟩
theorem Go.trans {aT : TpA} {F F1 F2 : Addr → Prop} {H H1 H2 : Hp} (a : Go aT F H F1 H1) (b : Go aT F1 H1 F2 H2) : Go aT F H F2 H2 :=
  ⟨a.nx.trans b.nx, fun c h => b.gr c (a.gr c h), fun c h => (b.nw c h).elim (fun z => a.nw c z) (fun z => .inr (a.no c z)), fun c h => a.no c (b.no c h)⟩
theorem Go.ext {aT : TpA} {F : Addr → Prop} {H H' : Hp} (h : ∀ a o, H a = some o → H' a = some o) : Go aT F H F H' :=
  ⟨.ext h, fun _ h => h, fun _ h => .inl h, fun a e o q => e o (h a o q)⟩
/-- the owned addresses of some slots -/
def OA (fl : Flg) (σ : L2.St) (is : List Nat) (a : Addr) : Prop := ∃ i ∈ is, fl i = true ∧ σ[i]? = some (some (.ref a))
/-- what comes of an expression -/
def VR (K : PySem.W.Frag) (H H' : Hp) (F1 O : Addr → Prop) (fr : Bool) (v : V) (x : PyData) : Prop :=
  ((fr && isMut x) = false ∧ Rp K H' (fun a => F1 a ∨ O a) v x) ∨
    (fr = true ∧ ∃ a, v = .ref a ∧ Nw H a ∧ ¬ F1 a ∧ ((∃ xs ds, x = .list ds ∧ H' a = some (.lst xs) ∧ RpA K H' (fun a => F1 a ∨ O a) xs ds) ∨ (∃ kvs ds, x = .dict ds ∧ H' a = some (.dK kvs) ∧ RpK K H' (fun a => F1 a ∨ O a) kvs ds)))
section
variable {K : PySem.W.Frag} {aT : TpA} {F F' : Addr → Prop} {fl : Flg} {r : Env} {t : Tp} {σ : L2.St} {H H' : Hp}
theorem TR.notT (R : TR K aT F t H) {b : Addr} {o : HO} (h : H b = some o) (n : (∀ xs, o ≠ .lst xs) ∨ F b) : aT.a ≠ some b := fun e => by
  cases ht : t with
  | none => rw [R.none ht] at e; cases e
  | some ts =>
    obtain ⟨a, xs, e1, e2, nf, _⟩ := R.tape ts ht
    rw [e1] at e
    cases e
    rcases n with n | n
    · rw [h] at e2
      cases e2
      exact n xs rfl
    · exact nf n
theorem TR.keepF (R : TR K aT F t H) (n : NX aT H H') : Keep F H H' := by
  refine ⟨fun b p h => ?_, fun b o hb h => ?_, fun b xs h => ?_, fun b o u h => ?_⟩
  · exact n.k b _ h (R.notT h (.inl fun _ e => by cases e)) (fun ps e => by cases e)
  · obtain ⟨o', h', p⟩ := R.dom b hb
    rw [h] at h'
    cases h'
    exact n.k b o h (R.notT h (.inr hb)) (fun ps e => by subst e; exact p)
  · exact n.k b _ h (R.notT h (.inl fun _ e => by cases e)) (fun ps e => by cases e)
  · exact n.k b _ h (R.notT h (.inl fun _ e => by cases e)) (fun ps e => by cases e)
theorem Rel.keepF (R : Rel K aT F fl r t σ H) (n : NX aT H H') : Keep F H H' := R.toTR.keepF n
theorem Rel.ownR (R : Rel K aT F fl r t σ H) {i : Nat} (h : fl i = true) : ∃ v x, getV r i = some v ∧ σ[i]? = some (some x) ∧ OwR K aT F H x v := by
  obtain ⟨v, hv⟩ := R.own i h
  obtain ⟨x, hx, q⟩ := R.slot i v hv
  unfold SltR at q
  rw [if_pos h] at q
  exact ⟨v, x, hv, hx, q⟩
/-- .. and of what is owned -/
theorem Rel.keepO (R : Rel K aT F fl r t σ H) (n : NX aT H H') {is : List Nat} : Keep (fun a => F a ∨ OA fl σ is a) H H' := by
  have k := R.keepF n
  refine ⟨k.e, fun b o hb h => ?_, k.t, k.f⟩
  rcases hb with hb | ⟨i, _, hf, hs⟩
  · exact k.a b o hb h
  · obtain ⟨v, x, _, hx, a, ea, _, nT, q⟩ := R.ownR hf
    rw [hs] at hx
    cases hx
    cases ea
    refine n.k b o h nT fun ps e => ?_
    subst e
    rcases q with ⟨xs, ds, _, e, _⟩ | ⟨kvs, ds, _, e, _⟩ <;> (rw [h] at e; cases e)
/-- what a slot holds, read -/
theorem Rel.rd (R : Rel K aT F fl r t σ H) {i : Nat} {y : PyData} (h : getV r i = some (.d y)) : ∃ x, σ[i]? = some (some x) ∧ Rp K H (fun a => F a ∨ OA fl σ [i] a) x y := by
  obtain ⟨x, hx, q⟩ := R.slot i _ h
  refine ⟨x, hx, ?_⟩
  unfold SltR at q
  by_cases hf : fl i = true
  · rw [if_pos hf] at q
    obtain ⟨a, rfl, _, _, q⟩ := q
    have ha : F a ∨ OA fl σ [i] a := .inr ⟨i, List.mem_singleton.mpr rfl, hf, hx⟩
    rcases q with ⟨xs, ds, e, hl, hr⟩ | ⟨kvs, ds, e, hl, hr⟩
    · cases e
      exact .lst ⟨hl, ha⟩ (hr.mono fun _ h => .inl h)
    · cases e
      exact .dic hl ha (hr.mono fun _ h => .inl h)
  · rw [if_neg hf] at q
    exact q.mono fun _ h => .inl h
end
end Ev

set_option Elab.async false
set_option autoImplicit false
set_option linter.all false
set_option maxRecDepth 100000
set_option maxHeartbeats 1000000
/-! The operators by data. -/
namespace Ev
open PySem PySem.Spec PyProof.Rows L2

/-- a new container's top -/
def Top (K : PySem.W.Frag) (H : Hp) (A : Addr → Prop) (p : Addr) (z : PyData) : Prop :=
  (∃ xs ds, z = .list ds ∧ H p = some (.lst xs) ∧ RpA K H A xs ds) ∨ (∃ kvs ds, z = .dict ds ∧ H p = some (.dK kvs) ∧ RpK K H A kvs ds)
/-- what an operation makes -/
def ORes (K : PySem.W.Frag) (H : Hp) (A : Addr → Prop) (z : PyData) (w : V) (H' : Hp) : Prop :=
  (∀ a o, H a = some o → H' a = some o) ∧ ((isMut z = false ∧ Rp K H' A w z) ∨ ∃ p, w = .ref p ∧ H p = none ∧ Top K H' A p z)
theorem keep_all {A : Addr → Prop} {H H' : Hp} (h : ∀ a o, H a = some o → H' a = some o) : Keep A H H' := ⟨fun b p e => h b _ e, fun b o _ e => h b o e, fun b xs e => h b _ e, fun b o u e => h b _ e⟩
theorem ext_new {H : Hp} {p : Addr} {o : HO} (hp : H p = none) : ∀ a u, H a = some u → upd H p o a = some u := fun a u h => by
  rw [upd_ne (ne_of_none h hp)]
  exact h
section
variable {K : PySem.W.Frag} {H : Hp} {A : Addr → Prop}
theorem ORes.same {z : PyData} {w : V} (h : Rp K H A w z) (hm : isMut z = false := by rfl) : ORes K H A z w H := ⟨fun _ _ e => e, .inl ⟨hm, h⟩⟩
theorem ORes.lst {p : Addr} {xs : List V} {ds : List PyData} (hp : H p = none) (h : RpA K H A xs ds) : ORes K H A (.list ds) (.ref p) (upd H p (.lst xs)) :=
  ⟨ext_new hp, .inr ⟨p, rfl, hp, .inl ⟨xs, ds, rfl, upd_same, h.keep (keep_all (ext_new hp)) fun _ h => h⟩⟩⟩
theorem ORes.tup {p : Addr} {xs : List V} {ds : List PyData} (hp : H p = none) (h : RpA K H A xs ds) : ORes K H A (.tuple ds) (.ref p) (upd H p (.tup xs)) :=
  ⟨ext_new hp, .inl ⟨rfl, .tup (.inl (.inl upd_same)) (h.keep (keep_all (ext_new hp)) fun _ h => h)⟩⟩
end
theorem line_eq : line = sizeLine := by rw [sizeLine_eq]; rfl
theorem RpA.cat : ∀ {K : PySem.W.Frag} {H : Hp} {A : Addr → Prop} {v : List V} {d : List PyData} (n : Nat), RpA K H A v d → RpA K H A (List.replicate n v).flatten (List.replicate n d).flatten
  | _, _, _, _, _, 0, _ => .nil
  | _, _, _, _, _, n + 1, h => by
    rw [List.replicate_succ, List.replicate_succ, List.flatten_cons, List.flatten_cons]
    exact RpA.app h (RpA.cat n h)
def bop : BOp → Operator
  | .add => .Add | .sub => .Sub | .mul => .Mult | .fdiv => .FloorDiv | .mod => .Mod | .pow => .Pow
def rB (K : PySem.W.Frag) (o : BOp) : R2 := fun u v H Q => ∃ A x y z, Rp K H A u x ∧ Rp K H A v y ∧ binD o x y = some z ∧ ∀ w H', ORes K H A z w H' → Q w H'
section
variable {X : Cx}
theorem tup_one (l : Addr) (items : Array Value) (n : Nat) (dd : Option Addr) (sl : Array (Option Value)) (u : Tok) :
    Meets (Builtin.«tuple.__mul__» ⟨[.ref l, .int 1 u], []⟩) (fun _ R s => s.heap.get? l = some { cls := .type "tuple", dict := dd, data := .seq items n, slots := sl } ∧ R (.ok (.ret (Value.ref l))) s) :=
  .of_wp fun prog w A R s h => by
    obtain ⟨hp, g, d, tk, os⟩ := s
    obtain ⟨hl, h⟩ := h
    have f1 := AutoSeq1.idx_int
    wp_walk using wpAny_loadPart' hl
    exact ⟨_, rfl, h⟩
theorem op_tup1 {pins : List (Addr × Obj)} {s : Shared} {σ : L2.St} {H : Hp} {l : Addr} {xs : List V} {v u : Value} {Q : VK} (I : Inv X pins σ H s) (rx : RelV (.ref l) v) (ry : RelV (.int 1) u) (hT : SqT X.K H l xs) (q : Q (.ref l) H) :
    wpAny (model X.prog X.w) X.A (binaryOp .Mult v u) (EP X pins σ Q) X.xe s := by
  cases rx
  obtain ⟨t, rfl⟩ := ry
  obtain ⟨its, r, ⟨⟨cls, dd, data, sl⟩, ho, hc, n, hd⟩, hs⟩ := I.tuple hT
  simp only at hc hd
  subst hc hd
  exact wpAny_binaryOp_repeat_ref (T := "tuple") (U := "int") (by decide) ⟨_, ho, rfl⟩ (fun s' => typeIs_int s' 1 t) noFill_tuple_mul F.fills_int_mul F.slot_int_rmul repeat_tuple F.slot_int_index.lookup
    (call_meets F.slot_int_rmul (typeIs_int s 1 t) F.entry_int_rmul (F.args_int_rmul_2 _ _) (int_rmul_tuple 1 t l its.toArray n dd sl)
      ⟨ho, rfl, ⟨_, ho, rfl⟩, call_meets F.slot_tuple_mul ⟨_, ho, rfl⟩ F.entry_tuple_mul (F.args_tuple_mul_2 _ _) (tup_one l its.toArray n dd sl t) ⟨ho, ⟨.ref l, H, I, rfl, q⟩⟩⟩)
theorem opB (o : BOp) : OpR X (binaryOp (bop o)) (rB X.K o) := by
  intro pins s σ H u v uu vv Q I rx ry h
  obtain ⟨A, x, y, z, hx, hy, hb, q⟩ := h
  cases o with
  | add =>
    cases hx <;> cases hy <;> simp only [binD] at hb <;> try (cases hb; done)
    · cases hb
      exact op_add pins s σ H _ _ uu vv Q I rx ry ⟨_, _, rfl, rfl, q _ _ (.same (.int _))⟩
    · split at hb
      · rename_i hl
        cases hb
        exact op_add_str pins s σ H _ _ uu vv Q I rx ry ⟨_, _, rfl, rfl, by rw [← line_eq]; exact hl, q _ _ (.same (.str _))⟩
      · cases hb
    · split at hb
      · rename_i h1 h2 _ _ _ h3 h4 hl
        cases hb
        exact op_cat pins s σ H _ _ uu vv Q I rx ry ⟨_, _, _, _, rfl, rfl, h1.1, h3.1, by rw [h2.len, h4.len, ← line_eq]; exact hl, fun p hp => q _ _ (.lst hp (RpA.app h2 h4))⟩
      · cases hb
    · split at hb
      · rename_i h1 h2 _ _ _ h3 h4 hl
        cases hb
        refine op_catA pins s σ H _ _ uu vv Q I rx ry ⟨_, _, _, _, rfl, rfl, h1, h3, by rw [h2.len, h4.len, ← line_eq]; exact hl, fun e => ?_, fun _ e => ?_, fun _ _ p hp => q _ _ (.tup hp (RpA.app h2 h4))⟩
        · subst e
          cases h2
          exact q _ _ (.same (.tup h3 h4))
        · subst e
          cases h4
          rw [List.append_nil] at q
          exact q _ _ (.same (.tup h1 h2))
      · cases hb
  | sub =>
    cases hx <;> cases hy <;> simp only [binD] at hb <;> try (cases hb; done)
    cases hb
    exact op_sub pins s σ H _ _ uu vv Q I rx ry ⟨_, _, rfl, rfl, q _ _ (.same (.int _))⟩
  | mul =>
    cases hx <;> cases hy <;> simp only [binD] at hb <;> try (cases hb; done)
    · split at hb
      · rename_i hl
        cases hb
        rcases hl with hl | hl | hl
        · exact op_mul pins s σ H _ _ uu vv Q I rx ry ⟨_, _, rfl, rfl, .inl hl, q _ _ (.same (.int _))⟩
        · exact op_mul pins s σ H _ _ uu vv Q I rx ry ⟨_, _, rfl, rfl, .inr hl, q _ _ (.same (.int _))⟩
        · exact op_mulW pins s σ H _ _ uu vv Q I rx ry ⟨_, _, rfl, rfl, wide_mul hl.1 hl.2 (by decide) (by decide) (by decide), q _ _ (.same (.int _))⟩
      · cases hb
    · split at hb
      · rename_i h1 h2 _ hl
        cases hb
        obtain ⟨l1, l2, l3⟩ := hl
        exact op_rep pins s σ H _ _ uu vv Q I rx ry ⟨_, _, _, rfl, rfl, h1.1, l1, l2, by rw [h2.len, ← line_eq]; exact l3, fun p hp => q _ _ (.lst hp (RpA.cat _ h2))⟩
      · cases hb
    · split at hb
      · rename_i h1 h2 _ hl
        cases hb
        subst hl
        exact op_tup1 I rx ry h1 (q _ _ (.same (.tup h1 h2)))
      · split at hb
        · rename_i h1 h2 _ _ hl
          cases hb
          obtain ⟨l0, l1, l2, l3⟩ := hl
          refine op_repT pins s σ H _ _ uu vv Q I rx ry ⟨_, _, _, rfl, rfl, h1, fun e => ?_, l1, l2, by rw [h2.len]; exact l3, fun p hp => q _ _ (.tup hp (RpA.cat _ h2))⟩
          subst e
          cases h2
          cases l0
        · cases hb
  | fdiv =>
    cases hx <;> cases hy <;> simp only [binD] at hb <;> try (cases hb; done)
    split at hb
    · rename_i hl
      cases hb
      exact op_fdivW pins s σ H _ _ uu vv Q I rx ry ⟨_, _, rfl, rfl, wide_div hl.1 hl.2 (by decide) (by decide), q _ _ (.same (.int _))⟩
    · cases hb
  | mod =>
    cases hx <;> cases hy <;> simp only [binD] at hb <;> try (cases hb; done)
    split at hb
    · rename_i hl
      cases hb
      exact op_mod pins s σ H _ _ uu vv Q I rx ry ⟨_, _, rfl, rfl, hl, q _ _ (.same (.int _))⟩
    · cases hb
  | pow =>
    cases hx <;> cases hy <;> simp only [binD] at hb <;> try (cases hb; done)
    split at hb
    · rename_i hl
      cases hb
      exact op_pow pins s σ H _ _ uu vv Q I rx ry ⟨_, _, rfl, rfl, hl, q _ _ (.same (.int _))⟩
    · cases hb
/-! ### comparisons -/
def cop : COp → CmpOp
  | .eq => .Eq | .ne => .NotEq | .lt => .Lt | .le => .LtE | .gt => .Gt | .ge => .GtE | .mem => .In | .nmem => .NotIn
def rC (K : PySem.W.Frag) (o : COp) : R2 := fun u v H Q => ∃ A B x y b, Rp K H A u x ∧ Rp K H B v y ∧ cmpD o x y = some b ∧ Q (.bl b) H
theorem noDict_shaped {d : PyData} (h : SeqAt.shaped d = true) : d.hasDict = false := PyData.hasDict_of_canLay d (SeqAt.canLay_of_shaped h)
theorem scal_eq {K : PySem.W.Frag} {H : Hp} {A B : Addr → Prop} {u v : V} {x y : PyData} (hx : Rp K H A u x) (hy : Rp K H B v y) (h : scalD x y = true) : scal u v = true ∧ decide (u = v) = PyData.eqv x y := by
  cases hx <;> cases hy <;> first
    | (simp [scalD] at h; done)
    | (refine ⟨rfl, ?_⟩
       simp only [PyData.eqv]
       first
         | exact dec_int
         | exact dec_bl
         | exact dec_str
         | exact decide_eq_true rfl
         | (simp; done))
theorem op_eqE (hu : X.A.units + 64 < cLine) (n : Bool) : OpR X (compareOp (if n = true then .NotEq else .Eq)) (fun u v H Q => ∃ A B x y b, Rp X.K H A u x ∧ Rp X.K H B v y ∧ eqD x y = some b ∧ Q (.bl (if n = true then !b else b)) H) := by
  intro pins s σ H u v uu vv Q I rx ry h
  obtain ⟨A, B, x, y, b, hx, hy, hb, q⟩ := h
  unfold eqD at hb
  split at hb
  · rename_i hl
    cases hb
    by_cases hs : scalD x y = true
    · obtain ⟨h1, h2⟩ := scal_eq hx hy hs
      cases n with
      | false => exact op_eq pins s σ H _ _ uu vv Q I rx ry ⟨h1, by rw [h2]; exact q⟩
      | true => exact op_ne pins s σ H _ _ uu vv Q I rx ry ⟨h1, by rw [h2]; exact q⟩
    · rw [Bool.eq_false_iff.mpr hs, Bool.false_or, Bool.and_eq_true] at hl
      have dx := hx.dp (noDict_shaped hl.1)
      have dy := hy.dp (noDict_shaped hl.2)
      cases n with
      | false => exact op_eqD hu pins s σ H _ _ uu vv Q I rx ry ⟨x, y, dx, dy, hl.1, hl.2, q⟩
      | true => exact op_neD hu pins s σ H _ _ uu vv Q I rx ry ⟨x, y, dx, dy, hl.1, hl.2, q⟩
  · cases hb
theorem op_ltE (hu : X.A.units + 64 < cLine) {o : CmpOp} {sw n : Bool} (ho : o = (if n = true then (if sw = true then .LtE else .GtE) else (if sw = true then .Gt else .Lt))) :
    OpR X (compareOp o) (fun u v H Q => ∃ A B x y b, Rp X.K H A u x ∧ Rp X.K H B v y ∧ (if sw = true then ltD y x else ltD x y) = some b ∧ Q (.bl (if n = true then !b else b)) H) := by
  intro pins s σ H u v uu vv Q I rx ry h
  obtain ⟨A, B, x, y, b, hx, hy, hb, q⟩ := h
  subst ho
  have key : (∃ i j : Int, x = .int i ∧ y = .int j ∧ b = if sw = true then decide (j < i) else decide (i < j)) ∨ (W.alike x y = true ∧ x ≠ .none ∧ x.hasDict = false ∧ y.hasDict = false ∧ min x.depth y.depth ≤ 64 ∧ b = if sw = true then W.dataLt y x else W.dataLt x y) := by
    have one : ∀ {x y : PyData} {b : Bool}, ltD x y = some b → (∃ i j : Int, x = .int i ∧ y = .int j ∧ b = decide (i < j)) ∨ (W.alike x y = true ∧ x ≠ .none ∧ x.hasDict = false ∧ y.hasDict = false ∧ x.depth ≤ 64 ∧ b = W.dataLt x y) := by
      intro x y b e
      unfold ltD at e
      split at e
      · cases e
        exact .inl ⟨_, _, rfl, rfl, rfl⟩
      · split at e
        · rename_i hl
          cases e
          simp only [Bool.and_eq_true, Bool.not_eq_true', decide_eq_true_eq] at hl
          obtain ⟨⟨⟨⟨a1, a2⟩, a3⟩, a4⟩, a5⟩ := hl
          refine .inr ⟨a1, fun e => ?_, a3, a4, a5, rfl⟩
          rw [e] at a2
          cases a2
        · cases e
    cases sw with
    | true =>
      rcases one hb with ⟨i, j, e1, e2, e3⟩ | ⟨a1, a2, a3, a4, a5, a6⟩
      · exact .inl ⟨j, i, e2, e1, e3⟩
      · exact .inr ⟨by rw [W.alike_comm]; exact a1, W.ne_none_both a1 a2, a4, a3, Nat.le_trans (Nat.min_le_right _ _) a5, a6⟩
    | false =>
      rcases one hb with ⟨i, j, e1, e2, e3⟩ | ⟨a1, a2, a3, a4, a5, a6⟩
      · exact .inl ⟨i, j, e1, e2, e3⟩
      · exact .inr ⟨a1, a2, a3, a4, Nat.le_trans (Nat.min_le_left _ _) a5, a6⟩
  rcases key with ⟨i, j, rfl, rfl, rfl⟩ | ⟨a1, a2, a3, a4, a5, rfl⟩
  · cases hx
    cases hy
    cases n <;> cases sw
    · exact op_lt pins s σ H _ _ uu vv Q I rx ry ⟨_, _, rfl, rfl, q⟩
    · exact op_gt pins s σ H _ _ uu vv Q I rx ry ⟨_, _, rfl, rfl, q⟩
    · have e : (!decide (i < j)) = decide (j ≤ i) := by
        rw [Bool.eq_iff_iff]; simp
      have q' : Q (.bl (!decide (i < j))) H := q
      rw [e] at q'
      exact op_ge pins s σ H _ _ uu vv Q I rx ry ⟨_, _, rfl, rfl, q'⟩
    · have e : (!decide (j < i)) = decide (i ≤ j) := by
        rw [Bool.eq_iff_iff]; simp
      have q' : Q (.bl (!decide (j < i))) H := q
      rw [e] at q'
      exact op_le pins s σ H _ _ uu vv Q I rx ry ⟨_, _, rfl, rfl, q'⟩
  · obtain ⟨as, ra⟩ := Dp.reads I x u uu (hx.dp a3) rx
    obtain ⟨bs, rb⟩ := Dp.reads I y v vv (hy.dp a4) ry
    have hu' : X.A.units + min x.depth y.depth < cLine := by
      have a5 : min x.depth y.depth ≤ 64 := a5
      omega
    cases n <;> cases sw
    · exact W.lt_data ra rb a1 a2 hu' ⟨.bl _, H, I, rfl, q⟩
    · exact W.gt_data ra rb a1 a2 hu' ⟨.bl _, H, I, rfl, q⟩
    · exact W.ge_data ra rb a1 a2 hu' ⟨.bl _, H, I, rfl, q⟩
    · exact W.le_data ra rb a1 a2 hu' ⟨.bl _, H, I, rfl, q⟩
end
end Ev

set_option Elab.async false
set_option autoImplicit false
set_option linter.all false
set_option maxRecDepth 100000
set_option maxHeartbeats 1000000
/-! Membership, places, slices, truth, dicts, by data. -/
namespace Ev
open PySem PySem.Spec PyProof.Rows L2
section
variable {K : PySem.W.Frag} {H H' : Hp} {A B : Addr → Prop}
theorem keyOf_dat (k : Key) : keyOf (datK k) = some k := by cases k <;> rfl
theorem keyOf_eq {x : PyData} {k : Key} (h : keyOf x = some k) : x = datK k := by
  cases x <;> simp [keyOf] at h <;> subst h <;> rfl
theorem Rp.key {u : V} {x : PyData} {k : Key} (r : Rp K H A u x) (h : keyOf x = some k) : u = kV k := by
  have e := keyOf_eq h
  subst e
  cases k <;> (cases r; rfl)
theorem rp_key (k : Key) : Rp K H A (kV k) (datK k) := by
  cases k with
  | inl i => exact .int i
  | inr z => exact .str z
theorem RpK.look (k : Key) : ∀ {kvs : List (Key × V)} {ds : List (PyData × PyData)}, RpK K H A kvs ds → (∀ d, Ev.look k ds = some d → ∃ v, valV kvs k = some v ∧ Rp K H A v d) ∧ (hasK k ds = (valV kvs k).isSome)
  | _, _, .nil => ⟨(fun d h => by cases h), rfl⟩
  | (k', v) :: kvs, _, .cons (d := d) (ds := ds) r t => by
    obtain ⟨h1, h2⟩ := RpK.look k t
    by_cases e : k' = k
    · subst e
      refine ⟨fun d' h => ?_, ?_⟩
      · have h' : (if keyOf (datK k') = some k' then some d else Ev.look k' ds) = some d' := h
        rw [if_pos (keyOf_dat k')] at h'
        cases h'
        exact ⟨v, valV_pos rfl, r⟩
      · rw [valV_pos rfl]
        show (decide (keyOf (datK k') = some k') || hasK k' ds) = true
        rw [decide_eq_true (keyOf_dat k')] <;> rfl
    · have ne : ¬ keyOf (datK k') = some k := fun q => e (by rw [keyOf_dat] at q; exact Option.some.inj q)
      refine ⟨fun d' h => ?_, ?_⟩
      · have h' : (if keyOf (datK k') = some k then some d else Ev.look k ds) = some d' := h
        rw [if_neg ne] at h'
        obtain ⟨w, e1, e2⟩ := h1 d' h'
        exact ⟨w, by rw [valV_neg (by exact e)]; exact e1, e2⟩
      · rw [valV_neg (by exact e), ← h2]
        show (decide (keyOf (datK k') = some k) || hasK k ds) = hasK k ds
        rw [decide_eq_false ne, Bool.false_or]
theorem RpK.app : ∀ {v w : List (Key × V)} {d e : List (PyData × PyData)}, RpK K H A v d → RpK K H A w e → RpK K H A (v ++ w) (d ++ e)
  | _, _, _, _, .nil, s => s
  | _, _, _, _, .cons r t, s => .cons r (RpK.app t s)
theorem RpK.sub (k : Key) {y : V} {d : PyData} (ry : Rp K H A y d) : ∀ {kvs : List (Key × V)} {ds : List (PyData × PyData)}, RpK K H A kvs ds → RpK K H A (kvs.map fun kv => if kv.1 = k then (kv.1, y) else kv) (subK k d ds)
  | _, _, .nil => .nil
  | (k', v) :: kvs, _, .cons (d := d') (ds := ds) r t => by
    show RpK K H A ((if k' = k then (k', y) else (k', v)) :: _) ((if keyOf (datK k') = some k then (datK k', d) else (datK k', d')) :: subK k d ds)
    by_cases e : k' = k
    · subst e
      rw [if_pos rfl, if_pos (keyOf_dat k')]
      exact .cons ry (RpK.sub k' ry t)
    · rw [if_neg e, if_neg fun q => e (by rw [keyOf_dat] at q; exact Option.some.inj q)]
      exact .cons r (RpK.sub k ry t)
theorem any_valV (k : Key) (kvs : List (Key × V)) : (kvs.any fun kv => decide (kv.1 = k)) = (valV kvs k).isSome := valV_any k kvs
theorem RpK.put (k : Key) {y : V} {d : PyData} (ry : Rp K H A y d) {kvs : List (Key × V)} {ds : List (PyData × PyData)} (r : RpK K H A kvs ds) : RpK K H A (putK kvs k y) (Ev.put k d ds) := by
  unfold putK Ev.put
  have e := (RpK.look k r).2
  rw [← any_valV] at e
  rw [e]
  split
  · exact RpK.sub k ry r
  · exact RpK.app r (.cons ry .nil)
theorem RpK.len : ∀ {v : List (Key × V)} {d : List (PyData × PyData)}, RpK K H A v d → v.length = d.length
  | _, _, .nil => rfl
  | _, _, .cons _ t => congrArg Nat.succ (RpK.len t)
theorem RpK.keys : ∀ {v : List (Key × V)} {d : List (PyData × PyData)}, RpK K H A v d → RpA K H A (v.map fun p => kV p.1) (d.map (·.1))
  | _, _, .nil => .nil
  | _, _, .cons _ t => .cons (rp_key _) (RpK.keys t)
theorem RpK.vals : ∀ {v : List (Key × V)} {d : List (PyData × PyData)}, RpK K H A v d → RpA K H A (v.map (·.2)) (d.map (·.2))
  | _, _, .nil => .nil
  | _, _, .cons r t => .cons r (RpK.vals t)
theorem flat_rp {u : V} {x : PyData} (h : Rp K H A u x) (f : flatD x = true) : flatV u = true := by
  cases h <;> first | rfl | (exact absurd f (by simp [flatD]))
theorem flat_all : ∀ {us : List V} {ds : List PyData}, RpA K H A us ds → ds.all flatD = true → us.all flatV = true
  | _, _, .nil, _ => rfl
  | _, _, .cons r t, f => by
    rw [List.all_cons, Bool.and_eq_true] at f
    rw [List.all_cons, flat_rp r f.1, flat_all t f.2] <;> rfl
theorem eqV_rp {u v : V} {x y : PyData} (hx : Rp K H A u x) (hy : Rp K H B v y) (fx : flatD x = true) (fy : flatD y = true) : eqV u v = PyData.eqv x y := by
  cases hx <;> cases hy <;> first | (simp [flatD] at fx; done) | (simp [flatD] at fy; done) | (simp only [eqV, PyData.eqv]; done) | rfl
theorem any_rp {u : V} {x : PyData} (hx : Rp K H A u x) (fx : flatD x = true) : ∀ {us : List V} {ds : List PyData}, RpA K H B us ds → ds.all flatD = true → inV u us = anyEq x ds
  | _, _, .nil, _ => rfl
  | v :: us, d :: ds, .cons r t, f => by
    rw [List.all_cons, Bool.and_eq_true] at f
    have ih := any_rp hx fx t f.2
    show (eqV v u || inV u us) = (PyData.eqv d x || anyEq x ds)
    rw [ih, eqV_rp r hx f.1 fx]
end
section
variable {X : Cx}
theorem shaped_all {ds : List PyData} (h : SeqAt.shaped (.tuple ds) = true) : PyData.canLayAll0 ds = true ∧ PyData.depthAll ds ≤ 64 := by
  have h' : (PyData.canLay0 (.tuple ds) && decide (PyData.depth (.tuple ds) ≤ 64)) = true := h
  rw [Bool.and_eq_true] at h'
  refine ⟨by simpa [PyData.canLay0] using h'.1, ?_⟩
  have := of_decide_eq_true h'.2
  simp only [PyData.depth] at this
  omega
theorem op_memE (hu : X.A.units + 80 < cLine) (n : Bool) : OpR X (compareOp (if n = true then .NotIn else .In)) (fun u v H Q => ∃ A B x y b, Rp X.K H A u x ∧ Rp X.K H B v y ∧ memD x y = some b ∧ Q (.bl (if n = true then !b else b)) H) := by
  intro pins s σ H u v uu vv Q I rx ry h
  obtain ⟨A, B, x, y, b, hx, hy, hb, q⟩ := h
  cases hy with
  | lst h1 h2 =>
    rename_i a us ds
    simp only [memD] at hb
    split at hb
    · rename_i hl
      cases hb
      by_cases hf : (flatD x && ds.all flatD) = true
      · rw [Bool.and_eq_true] at hf
        cases n with
        | false => exact op_in_seq pins s σ H _ _ uu vv Q I rx ry ⟨a, us, rfl, .inl h1.sq, flat_rp hx hf.1, flat_all h2 hf.2, by rw [any_rp hx hf.1 h2 hf.2]; exact q⟩
        | true => exact op_notIn_seq pins s σ H _ _ uu vv Q I rx ry ⟨a, us, rfl, .inl h1.sq, flat_rp hx hf.1, flat_all h2 hf.2, by rw [any_rp hx hf.1 h2 hf.2]; exact q⟩
      · rw [Bool.eq_false_iff.mpr hf, Bool.false_or, Bool.and_eq_true] at hl
        have dx := hx.dp (noDict_shaped hl.1)
        have dy := (Rp.lst h1 h2).dp (noDict_shaped hl.2)
        cases n with
        | false => exact op_inD (by omega) pins s σ H _ _ uu vv Q I rx ry ⟨x, ds, dx, dy, hl.1, hl.2, q⟩
        | true => exact op_notInD (by omega) pins s σ H _ _ uu vv Q I rx ry ⟨x, ds, dx, dy, hl.1, hl.2, q⟩
    · cases hb
  | tup h1 h2 =>
    rename_i a us ds
    simp only [memD] at hb
    split at hb
    · rename_i hl
      cases hb
      by_cases hf : (flatD x && ds.all flatD) = true
      · rw [Bool.and_eq_true] at hf
        cases n with
        | false => exact op_in_seq pins s σ H _ _ uu vv Q I rx ry ⟨a, us, rfl, .inr h1, flat_rp hx hf.1, flat_all h2 hf.2, by rw [any_rp hx hf.1 h2 hf.2]; exact q⟩
        | true => exact op_notIn_seq pins s σ H _ _ uu vv Q I rx ry ⟨a, us, rfl, .inr h1, flat_rp hx hf.1, flat_all h2 hf.2, by rw [any_rp hx hf.1 h2 hf.2]; exact q⟩
      · rw [Bool.eq_false_iff.mpr hf, Bool.false_or, Bool.and_eq_true] at hl
        have dx := hx.dp (noDict_shaped hl.1)
        have dy := (Rp.tup (A := B) h1 h2).dp (noDict_shaped hl.2)
        obtain ⟨c1, c2⟩ := shaped_all hl.2
        obtain ⟨as, ra⟩ := Dp.reads I x u uu dx rx
        obtain ⟨bs, rb⟩ := Dp.reads I (.tuple ds) _ vv dy ry
        have hd := SeqAt.canLay_of_shaped hl.1
        cases n with
        | false => exact SeqAt.in_tuple_reads rb ra c1 hd (by omega) ⟨.bl _, H, I, rfl, q⟩
        | true => exact SeqAt.notIn_tuple_reads rb ra c1 hd (by omega) ⟨.bl _, H, I, rfl, q⟩
    · cases hb
  | str z =>
    cases hx with
    | str y =>
      simp only [memD] at hb
      split at hb
      · have hb := Option.some.inj hb
        subst hb
        cases n with
        | false => exact op_in_str pins s σ H _ _ uu vv Q I rx ry ⟨_, _, rfl, rfl, q⟩
        | true => exact op_notin_str pins s σ H _ _ uu vv Q I rx ry ⟨_, _, rfl, rfl, q⟩
      · exact absurd hb (by simp)
    | _ => exact absurd hb (by simp [memD])
  | dic h1 h2 h3 =>
    simp only [memD] at hb
    cases hk : keyOf x with
    | none => rw [hk] at hb; cases hb
    | some k =>
      rw [hk] at hb
      have hb := Option.some.inj hb
      have e := hx.key hk
      subst e
      have hb : hasK k _ = b := hb
      rw [(RpK.look k h3).2] at hb
      subst hb
      cases (show vv = Value.ref _ from ry)
      cases n with
      | false => exact d_in (by omega) I (DGet.k h1) rx fun s' I' => ⟨.bl _, H, I', rfl, q⟩
      | true => exact d_notIn (by omega) I (DGet.k h1) rx fun s' I' => ⟨.bl _, H, I', rfl, q⟩
  | _ => simp [memD] at hb
/-- comparisons -/
theorem opC (hu : X.A.units + 80 < cLine) (o : COp) : OpR X (compareOp (cop o)) (rC X.K o) := by
  intro pins s σ H u v uu vv Q I rx ry h
  obtain ⟨A, B, x, y, b, hx, hy, hb, q⟩ := h
  have mapN : ∀ {o : Option Bool}, o.map (!·) = some b → ∃ c, o = some c ∧ b = !c := by
    intro o e
    cases o with
    | none => cases e
    | some c => cases e; exact ⟨c, rfl, rfl⟩
  cases o with
  | eq => exact op_eqE (by omega) false pins s σ H _ _ uu vv Q I rx ry ⟨A, B, x, y, b, hx, hy, hb, q⟩
  | ne =>
    obtain ⟨c, h1, rfl⟩ := mapN hb
    exact op_eqE (by omega) true pins s σ H _ _ uu vv Q I rx ry ⟨A, B, x, y, c, hx, hy, h1, q⟩
  | lt => exact op_ltE (sw := false) (n := false) (by omega) rfl pins s σ H _ _ uu vv Q I rx ry ⟨A, B, x, y, b, hx, hy, hb, q⟩
  | gt => exact op_ltE (sw := true) (n := false) (by omega) rfl pins s σ H _ _ uu vv Q I rx ry ⟨A, B, x, y, b, hx, hy, hb, q⟩
  | le =>
    obtain ⟨c, h1, rfl⟩ := mapN hb
    exact op_ltE (sw := true) (n := true) (by omega) rfl pins s σ H _ _ uu vv Q I rx ry ⟨A, B, x, y, c, hx, hy, h1, q⟩
  | ge =>
    obtain ⟨c, h1, rfl⟩ := mapN hb
    exact op_ltE (sw := false) (n := true) (by omega) rfl pins s σ H _ _ uu vv Q I rx ry ⟨A, B, x, y, c, hx, hy, h1, q⟩
  | mem => exact op_memE hu false pins s σ H _ _ uu vv Q I rx ry ⟨A, B, x, y, b, hx, hy, hb, q⟩
  | nmem =>
    obtain ⟨c, h1, rfl⟩ := mapN hb
    exact op_memE hu true pins s σ H _ _ uu vv Q I rx ry ⟨A, B, x, y, c, hx, hy, h1, q⟩
/-! ### places -/
theorem RpA.atI {K : PySem.W.Frag} {H : Hp} {A : Addr → Prop} {us : List V} {ds : List PyData} {i : Int} {z : PyData} (r : RpA K H A us ds) (h : L2.atI ds i = some z) : ∃ v, L2.atI us i = some v ∧ Rp K H A v z := by
  unfold L2.atI at h ⊢
  rw [r.len]
  cases e : ixN ds.length i with
  | none => rw [e] at h; cases h
  | some j =>
    rw [e] at h
    exact r.get h
def rX (K : PySem.W.Frag) : R2 := fun u v H Q => ∃ A B x y z, Rp K H A u x ∧ Rp K H B v y ∧ idxD x y = some z ∧ ∀ w, Rp K H A w z → Q w H
theorem ixX (hu : X.A.units + 80 < cLine) : IxR X (rX X.K) := by
  intro value slice pins s σ H u v uu vv Q I rx ry h hs
  obtain ⟨A, B, x, y, z, hx, hy, hb, q⟩ := h
  cases hx with
  | lst h1 h2 =>
    cases hy with
    | int i =>
      obtain ⟨w, e1, e2⟩ := RpA.atI h2 hb
      exact ix_list value slice pins s σ H _ _ uu vv Q I rx ry ⟨_, _, i, w, rfl, rfl, h1.sq, e1, q w e2⟩ hs
    | _ => simp [idxD] at hb
  | tup h1 h2 =>
    cases hy with
    | int i =>
      obtain ⟨w, e1, e2⟩ := RpA.atI h2 hb
      exact ix_tup value slice pins s σ H _ _ uu vv Q I rx ry ⟨_, _, i, w, rfl, rfl, h1, e1, q w e2⟩ hs
    | _ => simp [idxD] at hb
  | str y =>
    cases hy with
    | int i =>
      simp only [idxD] at hb
      split at hb
      · rename_i hl
        cases e : L2.atI y.cps.toList i with
        | none => rw [e] at hb; cases hb
        | some c =>
          rw [e] at hb
          cases hb
          exact ix_str value slice pins s σ H _ _ uu vv Q I rx ry ⟨y, i, c, rfl, rfl, by rw [← line_eq]; exact hl, e, q _ (.str _)⟩ hs
      · cases hb
    | _ => simp [idxD] at hb
  | dic h1 h2 h3 =>
    cases hk : keyOf y with
    | none => simp [idxD, hk] at hb
    | some k =>
      simp only [idxD, hk, Option.bind_some] at hb
      have e := hy.key hk
      subst e
      obtain ⟨w, e1, e2⟩ := (RpK.look k h3).1 z hb
      cases (show uu = Value.ref _ from rx)
      have g := DGet.k (k := k) h1
      rw [e1] at g
      exact tail_any (dict_typeIs I g) PySem.F.slot_dict_getitem.lookup (d_getItem (by omega) I g ry fun w' s' I' rw' => ⟨w, H, I', rw', q w e2⟩) hs
  | _ => simp [idxD] at hb
/-! ### slices -/
theorem cutV_eq (xs : List V) (lo hi : Option Int) : cutV xs lo hi = cut xs lo hi := rfl
theorem RpA.cut {K : PySem.W.Frag} {H : Hp} {A : Addr → Prop} {us : List V} {ds : List PyData} (lo hi : Option Int) (r : RpA K H A us ds) : RpA K H A (Ev.cut us lo hi) (Ev.cut ds lo hi) := by
  unfold Ev.cut
  rw [r.len]
  exact (r.drop _).take _
theorem slX : SlR X (fun u lo hi H Q => ∃ A x z, Rp X.K H A u x ∧ sliD x lo hi = some z ∧ ∀ w H', ORes X.K H A z w H' → Q w H') := by
  intro pins s σ H u uu vl vu lo hi sl Q I rx hs pl pu h
  obtain ⟨A, x, z, hx, hb, q⟩ := h
  cases hx with
  | lst h1 h2 =>
    cases hb
    exact sl_list pins s σ H _ uu vl vu lo hi sl Q I rx hs pl pu ⟨_, _, rfl, h1.sq, fun p hp => q _ _ (.lst hp (h2.cut lo hi))⟩
  | tup h1 h2 =>
    rename_i a us ds
    cases hb
    refine sl_tupA pins s σ H _ uu vl vu lo hi sl Q I rx hs pl pu ⟨_, _, rfl, h1, fun e => ?_, fun _ p hp => q _ _ (.tup hp (h2.cut lo hi))⟩
    have e2 : Ev.cut ds lo hi = ds := by
      unfold Ev.cut
      rw [← h2.len, e.1, e.2, List.drop_zero, Nat.sub_zero, h2.len, List.take_length]
    rw [e2] at q
    exact q _ _ (.same (.tup h1 h2))
  | str y =>
    simp only [sliD] at hb
    split at hb
    · rename_i hl
      cases hb
      exact sl_str pins s σ H _ uu vl vu lo hi sl Q I rx hs pl pu ⟨y, rfl, by rw [← line_eq]; exact hl, q _ _ (.same (by
        have e : cutS y lo hi = ⟨(Ev.cut y.cps.toList lo hi).toArray⟩ := by
          unfold cutS Ev.cut
          simp [Str.length]
        rw [e]
        exact .str _))⟩
    · cases hb
  | _ => simp [sliD] at hb
/-! ### truth -/
theorem truX {K : PySem.W.Frag} {H : Hp} {A : Addr → Prop} {u : V} {x : PyData} {b : Bool} (hx : Rp K H A u x) (h : truthD x = some b) : TruV K u H b := by
  cases hx with
  | non => cases h; rfl
  | bl c => cases h; rfl
  | int i => cases h; rfl
  | str z =>
    simp only [truthD] at h
    split at h
    · rename_i hl
      cases h
      refine ⟨by rw [← line_eq]; exact hl, ?_⟩
      rw [Bool.eq_iff_iff]
      simp
    · cases h
  | lst h1 h2 =>
    cases h
    refine .inl ⟨_, h1.sq, ?_⟩
    cases h2 <;> rfl
  | tup h1 h2 =>
    cases h
    refine .inr (.inl ⟨_, h1, ?_⟩)
    cases h2 <;> rfl
  | dic h1 h2 h3 =>
    cases h
    refine .inr (.inr ⟨_, h1, ?_⟩)
    cases h3 <;> rfl
end
end Ev

set_option Elab.async false
set_option autoImplicit false
set_option linter.all false
set_option maxRecDepth 100000
set_option maxHeartbeats 1000000
/-! Calls of what is built in, by data. -/
namespace Ev
open PySem PySem.Spec PyProof.Rows L2
/-! ### sorting -/
section
variable {α β : Type}
theorem insG_split (lt : α → α → Bool) (x : α) : ∀ (l1 l2 : List α), (∀ b ∈ l1, lt b x = true) → (∀ c r, l2 = c :: r → lt c x = false) → insG lt x (l1 ++ l2) = l1 ++ x :: l2
  | [], [], _, _ => rfl
  | [], c :: r, _, h => by
    show (if lt c x = true then _ else _) = _
    rw [h c r rfl, if_neg Bool.false_ne_true] <;> rfl
  | b :: l1, l2, h1, h2 => by
    show (if lt b x = true then b :: insG lt x (l1 ++ l2) else _) = _
    rw [if_pos (h1 b List.mem_cons_self), insG_split lt x l1 l2 (fun c hc => h1 c (List.mem_cons_of_mem _ hc)) h2] <;> rfl
theorem sortG_merge (lt : α → α → Bool) (tr : ∀ a b c, (!lt b a) = true → (!lt c b) = true → (!lt c a) = true) (to : ∀ a b, ((!lt b a) || (!lt a b)) = true) : ∀ l : List α, sortG lt l = l.mergeSort fun a b => !lt b a
  | [] => by simp [sortG]
  | x :: l => by
    obtain ⟨l1, l2, h1, h2, h3⟩ := List.mergeSort_cons (le := fun a b => !lt b a) tr to x l
    show insG lt x (sortG lt l) = _
    rw [sortG_merge lt tr to l, h1, h2]
    refine insG_split lt x l1 l2 (fun b hb => ?_) fun c r e => ?_
    · have := h3 b hb
      simpa using this
    · have s := List.pairwise_mergeSort (le := fun a b => !lt b a) tr to (x :: l)
      rw [h1, e] at s
      have s2 := (List.pairwise_append.mp s).2.1
      have s3 := (List.pairwise_cons.mp s2).1 c List.mem_cons_self
      simpa using s3
theorem insG_map (f : α → β) (lt : β → β → Bool) (x : α) : ∀ l : List α, (insG (fun a b => lt (f a) (f b)) x l).map f = insG lt (f x) (l.map f)
  | [] => rfl
  | y :: r => by
    show (if lt (f y) (f x) = true then y :: insG _ x r else x :: y :: r).map f = if lt (f y) (f x) = true then f y :: insG lt (f x) (r.map f) else f x :: f y :: r.map f
    split
    · rw [List.map_cons, insG_map f lt x r]
    · rfl
theorem sortG_map (f : α → β) (lt : β → β → Bool) : ∀ l : List α, (sortG (fun a b => lt (f a) (f b)) l).map f = sortG lt (l.map f)
  | [] => rfl
  | x :: r => by
    show (insG _ x (sortG _ r)).map f = insG lt (f x) (sortG lt (r.map f))
    rw [insG_map, sortG_map f lt r]
theorem sortG_dat (k : β → PyData) (l : List β) : sortG (fun a b => W.dataLt (k a) (k b)) l = l.mergeSort (W.dataLe false k) := by
  have t := W.sortLe_total (listOrd itemOrd) false fun b => W.keyToks (k b)
  exact sortG_merge (fun a b => W.dataLt (k a) (k b)) (fun a b c h1 h2 => t.trans a b c h1 h2) (fun a b => by
    rcases t.total a b with h | h
    · rw [Bool.or_eq_true]; exact .inl h
    · rw [Bool.or_eq_true]; exact .inr h) l
end
/-! ### what reads -/
mutual
theorem reads_inj {h : Heap} : ∀ {d e : PyData} {v : Value} {as bs : List Addr}, Reads h v d as → Reads h v e bs → d.hasDict = false → d = e
  | .none, _, _, _, _, r, q, _ => by cases r; cases q; rfl
  | .bool _, _, _, _, _, r, q, _ => by cases r; cases q; rfl
  | .int _, _, _, _, _, r, q, _ => by cases r; cases q; rfl
  | .str _, _, _, _, _, r, q, _ => by cases r; cases q; rfl
  | .list xs, _, _, _, _, r, q, n => by
    cases r with
    | list h1 h2 h3 h4 =>
      cases q with
      | list g1 g2 g3 g4 =>
        rw [h1] at g1
        cases g1
        rw [h3] at g3
        injection g3 with e1 _
        subst e1
        rw [readsAll_inj h4 g4 (by simpa [PyData.hasDict] using n)]
      | tuple g1 g2 g3 g4 =>
        rw [h1] at g1
        cases g1
        rw [h2] at g2
        injection g2 with e
        exact absurd e (by decide)
      | dict g1 g2 g3 g4 g5 =>
        rw [h1] at g1
        cases g1
        rw [h2] at g2
        injection g2 with e
        exact absurd e (by decide)
  | .tuple xs, _, _, _, _, r, q, n => by
    cases r with
    | tuple h1 h2 h3 h4 =>
      cases q with
      | tuple g1 g2 g3 g4 =>
        rw [h1] at g1
        cases g1
        rw [h3] at g3
        injection g3 with e1 _
        subst e1
        rw [readsAll_inj h4 g4 (by simpa [PyData.hasDict] using n)]
      | list g1 g2 g3 g4 =>
        rw [h1] at g1
        cases g1
        rw [h2] at g2
        injection g2 with e
        exact absurd e (by decide)
      | dict g1 g2 g3 g4 g5 =>
        rw [h1] at g1
        cases g1
        rw [h2] at g2
        injection g2 with e
        exact absurd e (by decide)
  | .dict _, _, _, _, _, _, _, n => by simp [PyData.hasDict] at n
theorem readsAll_inj {h : Heap} : ∀ {d e : List PyData} {v : List Value} {as bs : List Addr}, ReadsAll h v d as → ReadsAll h v e bs → PyData.hasDictAll d = false → d = e
  | [], _, _, _, _, r, q, _ => by cases r; cases q; rfl
  | _ :: _, _, _, _, _, r, q, n => by
    rw [PyData.hasDictAll, Bool.or_eq_false_iff] at n
    cases r with
    | cons r1 r2 =>
      cases q with
      | cons q1 q2 => rw [reads_inj r1 q1 n.1, readsAll_inj r2 q2 n.2]
end
theorem reads_at {h : Heap} : ∀ {vs : List Value} {ds : List PyData} {as : List Addr} {i : Nat} {v : Value} {d : PyData}, ReadsAll h vs ds as → vs[i]? = some v → ds[i]? = some d → ∃ bs, Reads h v d bs
  | _, _, _, _, _, _, .nil, e, _ => by simp at e
  | _, _, _, 0, _, _, .cons r _, e, f => by simp at e f; subst e; subst f; exact ⟨_, r⟩
  | _, _, _, i + 1, _, _, .cons _ t, e, f => reads_at (i := i) t (by simpa using e) (by simpa using f)
theorem okOrd_of {xs : List PyData} (h : okOrd xs = true) : W.AllAlike xs ∧ PyData.depthAll xs ≤ 64 ∧ (∀ x ∈ xs, x ≠ .none) ∧ PyData.hasDictAll xs = false := by
  unfold okOrd at h
  simp only [Bool.and_eq_true, Bool.not_eq_true', decide_eq_true_eq, List.all_eq_true] at h
  obtain ⟨⟨⟨h1, h2⟩, h3⟩, h4⟩ := h
  refine ⟨fun d hd d' hd' => h1 d hd d' hd', h2, fun x hx e => ?_, h4⟩
  have := h3 x hx
  rw [e] at this
  cases this
theorem sortable_of {xs : List PyData} (h : sortable xs = true) (hn : ∀ x ∈ xs, x ≠ .none) : W.Sortable xs := by
  unfold sortable at h
  rw [Bool.or_eq_true] at h
  rcases h with h | h
  · refine .inl fun d hd => ?_
    have := List.all_eq_true.mp h d hd
    cases d with
    | tuple xs => cases xs with
      | nil => cases this
      | cons x r => exact ⟨x, r, rfl⟩
    | _ => cases this
  · refine .inr fun d hd => ⟨hn d hd, fun xs e => ?_⟩
    have := List.all_eq_true.mp h d hd
    rw [e] at this
    cases this
theorem depth_mem {xs : List PyData} {x : PyData} (h : x ∈ xs) : x.depth ≤ PyData.depthAll xs := by
  induction xs with
  | nil => cases h
  | cons y r ih =>
    simp only [PyData.depthAll]
    rcases List.mem_cons.mp h with e | e
    · subst e; omega
    · have := ih e; omega
theorem minD_mem (x : PyData) (xs : List PyData) : W.minD x xs ∈ x :: xs := by
  induction xs generalizing x with
  | nil => exact List.mem_cons_self
  | cons y r ih =>
    show W.minD (if W.dataLt y x = true then y else x) r ∈ _
    have := ih (if W.dataLt y x = true then y else x)
    rcases List.mem_cons.mp this with e | e
    · rw [e]
      split
      · exact List.mem_cons_of_mem _ List.mem_cons_self
      · exact List.mem_cons_self
    · exact List.mem_cons_of_mem _ (List.mem_cons_of_mem _ e)
/-! ### the calls -/
def bval : Bi → Value
  | .len => .builtin "len" | .abs => .builtin "abs" | .int => .type "int" | .bool => .type "bool" | .min => .builtin "min" | .max => .builtin "max" | .sum => .builtin "sum"
  | .sorted => .builtin "sorted" | .all => .builtin "all" | .any => .builtin "any" | .list => .type "list" | .tuple => .type "tuple" | .repr => .builtin "repr" | .str => .type "str"
def rBi (K : PySem.W.Frag) (b : Bi) : List V → Hp → VK → Prop := fun us H Q => ∃ A ds z, RpA K H A us ds ∧ biD b ds = some z ∧ ∀ w H', ORes K H A z w H' → Q w H'
section
variable {K : PySem.W.Frag} {H : Hp} {A : Addr → Prop}
theorem rpa1 {us : List V} {x : PyData} (h : RpA K H A us [x]) : ∃ u, us = [u] ∧ Rp K H A u x := by
  cases h with
  | cons r t => cases t; exact ⟨_, rfl, r⟩
theorem rpa2 {us : List V} {x y : PyData} (h : RpA K H A us [x, y]) : ∃ u v, us = [u, v] ∧ Rp K H A u x ∧ Rp K H A v y := by
  cases h with
  | cons r t => cases t with
    | cons r2 t2 => cases t2; exact ⟨_, _, rfl, r, r2⟩
theorem rpa3 {us : List V} {x y z : PyData} (h : RpA K H A us [x, y, z]) : ∃ u v w, us = [u, v, w] ∧ Rp K H A u x ∧ Rp K H A v y ∧ Rp K H A w z := by
  cases h with
  | cons r t => cases t with
    | cons r2 t2 => cases t2 with
      | cons r3 t3 => cases t3; exact ⟨_, _, _, rfl, r, r2, r3⟩
theorem ints_rp : ∀ {us : List V} {ds : List PyData} {ns : List Int}, RpA K H A us ds → intsD ds = some ns → us = ns.map V.int
  | _, _, _, .nil, h => by cases h; rfl
  | _, _, ns, .cons (d := d) r t, h => by
    cases d with
    | int i =>
      cases r
      simp only [intsD] at h
      obtain ⟨ms, e1, e2⟩ := Option.map_eq_some_iff.mp h
      subst e2
      rw [ints_rp t e1] <;> rfl
    | _ => cases h
theorem bls_rp : ∀ {us : List V} {ds : List PyData} {ns : List Bool}, RpA K H A us ds → blsD ds = some ns → us = ns.map V.bl
  | _, _, _, .nil, h => by cases h; rfl
  | _, _, ns, .cons (d := d) r t, h => by
    cases d with
    | bool i =>
      cases r
      simp only [blsD] at h
      obtain ⟨ms, e1, e2⟩ := Option.map_eq_some_iff.mp h
      subst e2
      rw [bls_rp t e1] <;> rfl
    | _ => cases h
theorem seq_rp {u : V} {x : PyData} {xs : List PyData} (r : Rp K H A u x) (h : seqD x = some xs) : ∃ a us, u = .ref a ∧ (SqL K H a us ∧ x = .list xs ∧ LsA H A a us ∨ SqT K H a us ∧ x = .tuple xs) ∧ RpA K H A us xs := by
  cases r with
  | lst h1 h2 => cases h; exact ⟨_, _, rfl, .inl ⟨h1.sq, rfl, h1⟩, h2⟩
  | tup h1 h2 => cases h; exact ⟨_, _, rfl, .inr ⟨h1, rfl⟩, h2⟩
  | _ => cases h
/-- the least or greatest item, as it stands -/
theorem best_at {h : Heap} {us : List V} {its : List Value} {ds : List PyData} {as bs : List Addr} {i : Nat} {v : Value} {z : PyData} (rd : RpA K H A us ds) (rv : Vals us its) (rs : ReadsAll h its ds as) (hv : its[i]? = some v) (r : Reads h v z bs) (nd : PyData.hasDictAll ds = false) :
    ∃ u, RelV u v ∧ Rp K H A u z := by
  have hi : i < us.length := by
    rw [rv.length]
    exact (List.getElem?_eq_some_iff.mp hv).1
  have hu : us[i]? = some us[i] := List.getElem?_eq_getElem hi
  obtain ⟨d, hd, rp⟩ := rd.get' hu
  obtain ⟨v', hv', rl⟩ := rv.get hu
  rw [hv] at hv'
  cases hv'
  obtain ⟨cs, r'⟩ := reads_at rs hv hd
  have ndd : d.hasDict = false := by
    have : ∀ {l : List PyData}, PyData.hasDictAll l = false → ∀ x ∈ l, x.hasDict = false := by
      intro l
      induction l with
      | nil => intro _ x hx; cases hx
      | cons y r ih =>
        intro e x hx
        rw [PyData.hasDictAll, Bool.or_eq_false_iff] at e
        rcases List.mem_cons.mp hx with q | q
        · subst q; exact e.1
        · exact ih e.2 x q
    exact this nd d (List.mem_of_getElem? hd)
  have e := reads_inj r' r ndd
  subst e
  exact ⟨_, rl, rp⟩
theorem each_zip : ∀ {us : List V} {its : List Value} {ds : List PyData}, RpA K H A us ds → Vals us its → W.EachIs (fun (v : Value) (p : V × PyData) => RelV p.1 v ∧ Rp K H A p.1 p.2) its (us.zip ds)
  | _, _, _, .nil, .nil => .nil
  | _, _, _, .cons r t, .cons q s => .cons ⟨q, r⟩ (each_zip t s)
theorem each_reads {h : Heap} : ∀ {us : List V} {its : List Value} {ds : List PyData} {as : List Addr}, us.length = ds.length → ReadsAll h its ds as → W.EachIs (fun (v : Value) (p : V × PyData) => ∃ as, Reads h v p.2 as) its (us.zip ds)
  | [], _, _, _, e, .nil => .nil
  | u :: us, _, _, _, e, .cons r t => .cons ⟨_, r⟩ (each_reads (Nat.succ.inj e) t)
  | [], _, _, _, e, .cons _ _ => by cases e
  | _ :: _, _, _, _, e, .nil => by cases e
theorem each_back : ∀ {its : List Value} {ps : List (V × PyData)}, W.EachIs (fun (v : Value) (p : V × PyData) => RelV p.1 v ∧ Rp K H A p.1 p.2) its ps → Vals (ps.map (·.1)) its ∧ RpA K H A (ps.map (·.1)) (ps.map (·.2))
  | _, _, .nil => ⟨.nil, .nil⟩
  | _, _, .cons q t => ⟨.cons q.1 (each_back t).1, .cons q.2 (each_back t).2⟩
end
section
variable {X : Cx}
theorem rpa_same {K : PySem.W.Frag} {H : Hp} {A : Addr → Prop} {z : PyData} {w : V} (h : Rp K H A w z) {Q : VK} (q : ∀ w H', ORes K H A z w H' → Q w H') (hm : isMut z = false := by rfl) : Q w H := q _ _ (.same h hm)
theorem bi_best (hu : X.A.units + 100 < cLine) (hc : X.calm = true) {pins : List (Addr × Obj)} {s : Shared} {σ : L2.St} {H : Hp} {A : Addr → Prop} {u : V} {v : Value} {x y : PyData} {r : List PyData} {Q : VK} (I : Inv X pins σ H s) (ru : RelV u v)
    (rx : Rp X.K H A u x) (hx : seqD x = some (y :: r)) (ho : okOrd (y :: r) = true) :
    ((∀ w, Rp X.K H A w (W.minD y r) → Q w H) → wpAny (model X.prog X.w) X.A (call (.builtin "min") [v]) (EP X pins σ Q) X.xe s) ∧ ((∀ w, Rp X.K H A w (W.maxD y r) → Q w H) → wpAny (model X.prog X.w) X.A (call (.builtin "max") [v]) (EP X pins σ Q) X.xe s) := by
  obtain ⟨h1, h2, h3, h4⟩ := okOrd_of ho
  have hAl : (∀ x ∈ y :: r, ∀ z ∈ y :: r, W.alike x z = true) ∧ ∀ x ∈ y :: r, x ≠ .none := ⟨fun x hx z hz => h1 x hx z hz, h3⟩
  obtain ⟨a, us, rfl, hk, rd⟩ := seq_rp rx hx
  cases ru
  rcases hk with ⟨hl, _, _⟩ | ⟨ht, _⟩
  · obtain ⟨its, rv, pl, hz⟩ := I.list hl
    obtain ⟨as, rs⟩ := Dp.readsAll I _ us its (rd.dp h4) rv
    constructor
    · intro q
      refine W.min_list_data (I.ok.hd hc) pl.isList (by simpa using rs) hAl (by omega) fun i v h' tk bs hv hr hk => ?_
      obtain ⟨w, e1, e2⟩ := best_at rd rv (ReadsAll.keeps hk rs) (by simpa using hv) hr h4
      exact ⟨w, H, I.kept hk, e1, q w e2⟩
    · intro q
      refine W.max_list_data (I.ok.hd hc) pl.isList (by simpa using rs) hAl (by omega) fun i v h' tk bs hv hr hk => ?_
      obtain ⟨w, e1, e2⟩ := best_at rd rv (ReadsAll.keeps hk rs) (by simpa using hv) hr h4
      exact ⟨w, H, I.kept hk, e1, q w e2⟩
  · obtain ⟨its, rv, pl, hz⟩ := I.tuple ht
    obtain ⟨as, rs⟩ := Dp.readsAll I _ us its (rd.dp h4) rv
    constructor
    · intro q
      refine W.min_tuple_data (I.ok.hd hc) pl (by simpa using rs) hAl (by omega) fun i v h' tk bs hv hr hk => ?_
      obtain ⟨w, e1, e2⟩ := best_at rd rv (ReadsAll.keeps hk rs) (by simpa using hv) hr h4
      exact ⟨w, H, I.kept hk, e1, q w e2⟩
    · intro q
      refine W.max_tuple_data (I.ok.hd hc) pl (by simpa using rs) hAl (by omega) fun i v h' tk bs hv hr hk => ?_
      obtain ⟨w, e1, e2⟩ := best_at rd rv (ReadsAll.keeps hk rs) (by simpa using hv) hr h4
      exact ⟨w, H, I.kept hk, e1, q w e2⟩
theorem opBi (hu : X.A.units + 100 < cLine) (hc : X.calm = true) (b : Bi) (hg : b = .repr → X.A.guards = some []) : CallR X (bval b) (rBi X.K b) := by
  intro pins s σ H us vs Q I rv h
  obtain ⟨A, ds, z, rd, hb, q⟩ := h
  unfold biD at hb
  split at hb
  case h_1 =>
    cases hb
    obtain ⟨u, rfl, r⟩ := rpa1 rd
    cases r with
    | lst h1 h2 => exact call_len_seq pins s σ H _ vs Q I rv ⟨_, _, rfl, .inl h1.sq, by rw [h2.len]; exact rpa_same (.int _) q⟩
  case h_2 =>
    cases hb
    obtain ⟨u, rfl, r⟩ := rpa1 rd
    cases r with
    | tup h1 h2 => exact call_len_seq pins s σ H _ vs Q I rv ⟨_, _, rfl, .inr h1, by rw [h2.len]; exact rpa_same (.int _) q⟩
  case h_3 =>
    split at hb
    · rename_i hl
      cases hb
      obtain ⟨u, rfl, r⟩ := rpa1 rd
      cases r
      exact call_len_str pins s σ H _ vs Q I rv ⟨_, rfl, by rw [← line_eq]; exact hl, rpa_same (.int _) q⟩
    · cases hb
  case h_4 =>
    cases hb
    obtain ⟨u, rfl, r⟩ := rpa1 rd
    cases r with
    | dic h1 h2 h3 =>
      rw [Vals.ref1 rv]
      exact d_len I (.inl h1) fun t s' I' => ⟨.int _, H, I', ⟨t, rfl⟩, by rw [h3.len]; exact rpa_same (.int _) q⟩
  case h_5 =>
    cases hb
    obtain ⟨u, rfl, r⟩ := rpa1 rd
    cases r
    exact call_abs pins s σ H _ vs Q I rv ⟨_, rfl, rpa_same (.int _) q⟩
  case h_6 =>
    cases hb
    obtain ⟨u, rfl, r⟩ := rpa1 rd
    cases r
    exact call_int1 pins s σ H _ vs Q I rv (.inl ⟨_, rfl, rpa_same (.int _) q⟩)
  case h_7 =>
    cases hb
    obtain ⟨u, rfl, r⟩ := rpa1 rd
    cases r
    exact call_int1 pins s σ H _ vs Q I rv (.inr ⟨_, rfl, rpa_same (.int _) q⟩)
  case h_8 =>
    split at hb
    · rename_i hl
      obtain ⟨n, e1, e2⟩ := Option.map_eq_some_iff.mp hb
      subst e2
      obtain ⟨u, rfl, r⟩ := rpa1 rd
      cases r
      exact call_int_str pins s σ H _ vs Q I rv ⟨_, n, rfl, e1, hl, rpa_same (.int _) q⟩
    · cases hb
  case h_9 =>
    cases hb
    obtain ⟨u, rfl, r⟩ := rpa1 rd
    cases r
    exact call_bool1 pins s σ H _ vs Q I rv (.inl ⟨_, rfl, rpa_same (.bl _) q⟩)
  case h_10 =>
    cases hb
    obtain ⟨u, rfl, r⟩ := rpa1 rd
    cases r
    exact call_bool1 pins s σ H _ vs Q I rv (.inr ⟨_, rfl, rpa_same (.bl _) q⟩)
  case h_11 =>
    cases hb
    obtain ⟨u, v, rfl, r, r2⟩ := rpa2 rd
    cases r
    cases r2
    exact call_min2 hc pins s σ H _ vs Q I rv ⟨_, _, rfl, rpa_same (.int _) q⟩
  case h_12 =>
    cases hb
    obtain ⟨u, v, rfl, r, r2⟩ := rpa2 rd
    cases r
    cases r2
    exact call_max2 hc pins s σ H _ vs Q I rv ⟨_, _, rfl, rpa_same (.int _) q⟩
  case h_13 i j k =>
    cases hb
    obtain ⟨u, v, w, rfl, r, r2, r3⟩ := rpa3 rd
    cases r
    cases r2
    cases r3
    obtain ⟨v1, vr, rfl, ⟨t1, rfl⟩, rv1⟩ : ∃ v1 vr, vs = v1 :: vr ∧ RelV (.int i) v1 ∧ Vals [.int j, .int k] vr := by
      cases rv with
      | cons a b => exact ⟨_, _, rfl, a, b⟩
    obtain ⟨v2, v3, rfl, ⟨t2, rfl⟩, ⟨t3, rfl⟩⟩ := vals2 rv1
    refine max_three_ints (I.ok.hd hc) fun h' tk hk => ⟨_, H, I.kept hk, ?_, rpa_same (.int _) q⟩
    by_cases c1 : j > i
    · rw [if_pos c1]
      by_cases c2 : k > j
      · rw [if_pos c2]
        refine ⟨t3, ?_⟩
        simp [c1, c2]
      · rw [if_neg c2]
        refine ⟨t2, ?_⟩
        simp [c1, c2]
    · rw [if_neg c1]
      by_cases c2 : k > i
      · rw [if_pos c2]
        refine ⟨t3, ?_⟩
        simp [c1, c2]
      · rw [if_neg c2]
        refine ⟨t1, ?_⟩
        simp [c1, c2]
  case h_14 =>
    obtain ⟨xs, e1, e2⟩ := Option.bind_eq_some_iff.mp hb
    obtain ⟨u, rfl, r⟩ := rpa1 rd
    obtain ⟨v, rfl, ru⟩ := vals1 rv
    cases xs with
    | nil => cases e2
    | cons y xr =>
      dsimp only at e2
      split at e2
      · rename_i ho
        cases e2
        rw [Bool.and_eq_true, Bool.not_eq_true'] at ho
        exact (bi_best hu hc I ru r e1 ho.1).1 fun w hw => rpa_same hw q ho.2
      · cases e2
  case h_15 =>
    obtain ⟨xs, e1, e2⟩ := Option.bind_eq_some_iff.mp hb
    obtain ⟨u, rfl, r⟩ := rpa1 rd
    obtain ⟨v, rfl, ru⟩ := vals1 rv
    cases xs with
    | nil => cases e2
    | cons y xr =>
      dsimp only at e2
      split at e2
      · rename_i ho
        cases e2
        rw [Bool.and_eq_true, Bool.not_eq_true'] at ho
        exact (bi_best hu hc I ru r e1 ho.1).2 fun w hw => rpa_same hw q ho.2
      · cases e2
  case h_16 =>
    obtain ⟨ns, e1, e2⟩ := Option.map_eq_some_iff.mp hb
    subst e2
    obtain ⟨u, rfl, r⟩ := rpa1 rd
    cases r with
    | lst h1 h2 =>
      have e := ints_rp h2 e1
      subst e
      exact cr_sum hc pins s σ H _ vs Q I rv ⟨_, ns, rfl, h1.sq, rpa_same (.int _) q⟩
  case h_17 xs =>
    split at hb
    · rename_i ho
      cases hb
      rw [Bool.and_eq_true] at ho
      obtain ⟨o1, o2, o3, o4⟩ := okOrd_of ho.1
      have so := sortable_of ho.2 o3
      obtain ⟨u, rfl, r⟩ := rpa1 rd
      cases r with
      | lst h1 h2 =>
        rename_i a us
        obtain ⟨its, rv', pl, hz⟩ := I.list (h1.sq (K := X.K))
        obtain ⟨as, rs⟩ := Dp.readsAll I _ us its (h2.dp o4) rv'
        rw [Vals.ref1 rv]
        have hm : (us.zip xs).map (·.2) = xs := List.map_snd_zip (Nat.le_of_eq h2.len.symm)
        refine W.sorted_data (β := V × PyData) (enc := (·.2)) (bs := us.zip xs) pl.isList (each_zip h2 rv') (each_reads h2.len rs) (by rw [hm]; exact o1) (by rw [hm]; exact so) (by rw [List.length_zip, h2.len, Nat.min_self, ← h2.len]; exact hz) (fun b hb => ?_) fun out hlen he => ?_
        · have hb2 : b.2 ∈ xs := by
            rw [← hm]
            exact List.mem_map_of_mem hb
          have := depth_mem hb2
          omega
        · obtain ⟨ep, he'⟩ := PyProof.Rows.sortedAll_at s.heap its out.toArray
          obtain ⟨e1, e2⟩ := each_back he
          have es : ((us.zip xs).mergeSort (W.dataLe false (·.2))).map (·.2) = sortG W.dataLt xs := by
            rw [← sortG_dat, sortG_map (fun (p : V × PyData) => p.2) W.dataLt, hm]
          rw [es] at e2
          have hp := I.hok.fresh (Nat.le_succ s.heap.objs.size)
          refine ⟨.ref _, upd H (s.heap.objs.size + 1) (.lst (((us.zip xs).mergeSort (W.dataLe false (·.2))).map (·.1))), I.laid (t' := s.toks) (fun _ _ => PyProof.Rows.sortedAll_old) (Nat.le_succ _) ⟨?_, out, ep, e1, he'⟩, rfl, q _ _ (.lst hp e2)⟩
          rw [e1.length, hlen, List.length_zip, h2.len, Nat.min_self, ← h2.len]
          exact hz
    · cases hb
  case h_18 =>
    obtain ⟨ns, e1, e2⟩ := Option.map_eq_some_iff.mp hb
    subst e2
    obtain ⟨u, rfl, r⟩ := rpa1 rd
    cases r with
    | lst h1 h2 =>
      have e := bls_rp h2 e1
      subst e
      exact cr_all hc pins s σ H _ vs Q I rv ⟨_, ns, rfl, h1.sq, rpa_same (.bl _) q⟩
  case h_19 =>
    obtain ⟨ns, e1, e2⟩ := Option.map_eq_some_iff.mp hb
    subst e2
    obtain ⟨u, rfl, r⟩ := rpa1 rd
    cases r with
    | lst h1 h2 =>
      have e := bls_rp h2 e1
      subst e
      exact cr_any hc pins s σ H _ vs Q I rv ⟨_, ns, rfl, h1.sq, rpa_same (.bl _) q⟩
  case h_20 =>
    obtain ⟨xs, e1, e2⟩ := Option.map_eq_some_iff.mp hb
    subst e2
    obtain ⟨u, rfl, r⟩ := rpa1 rd
    obtain ⟨a, us, rfl, hk, r2⟩ := seq_rp r e1
    refine call_list_of pins s σ H _ vs Q I rv ⟨a, us, rfl, ?_, fun l hl => q _ _ (.lst hl r2)⟩
    rcases hk with ⟨hk, _⟩ | ⟨hk, _⟩
    · exact .inl hk
    · exact .inr hk
  case h_21 =>
    obtain ⟨xs, e1, e2⟩ := Option.map_eq_some_iff.mp hb
    subst e2
    obtain ⟨u, rfl, r⟩ := rpa1 rd
    obtain ⟨a, us, rfl, hk, r2⟩ := seq_rp r e1
    refine call_tuple_of pins s σ H _ vs Q I rv ⟨a, us, rfl, ?_⟩
    rcases hk with ⟨hk, _⟩ | ⟨hk, _⟩
    · exact .inl ⟨hk, fun l hl => q _ _ (.tup hl r2)⟩
    · exact .inr ⟨hk, rpa_same (.tup hk r2) q⟩
  case h_22 x =>
    split at hb
    · rename_i hl
      cases hb
      simp only [Bool.and_eq_true, Bool.not_eq_true', decide_eq_true_eq] at hl
      obtain ⟨⟨⟨l1, l2⟩, l3⟩, l4⟩ := hl
      rw [line_eq] at l4
      obtain ⟨u, rfl, r⟩ := rpa1 rd
      obtain ⟨v, rfl, ru⟩ := vals1 rv
      have hgr := hg rfl
      have dp := r.dp l2
      obtain ⟨as, rr⟩ := Dp.reads I x u v dp ru
      cases r with
      | non => cases ru; exact PySem.P.repr_of_none ⟨.str _, H, I.tok _, ⟨_, rfl⟩, by simp only [PyData.shown] at q; exact rpa_same (.str _) q⟩
      | bl b => cases ru; exact PySem.P.repr_of_bool ⟨.str _, H, I.tok _, ⟨_, rfl⟩, by simp only [PyData.shown] at q; exact rpa_same (.str _) q⟩
      | int i =>
        obtain ⟨t, rfl⟩ := ru
        exact PySem.P.repr_of_int (by simpa [PyData.showable] using l1) ⟨.str _, H, I.tok _, ⟨_, rfl⟩, by simp only [PyData.shown] at q; exact rpa_same (.str _) q⟩
      | str z =>
        obtain ⟨t, rfl⟩ := ru
        exact PySem.P.repr_of_str ⟨.str _, H, I.tok _, ⟨_, rfl⟩, by simp only [PyData.shown] at q; exact rpa_same (.str _) q⟩ (by simpa [PyData.shown] using l4)
      | lst h1 h2 => cases ru; exact repr_of_reads' rr l1 (PyData.noDict_hsm l2) hgr (by omega) (fun _ _ e => e) (fun h' u tk hk => ⟨.str _, H, I.kept hk, ⟨u, rfl⟩, rpa_same (.str _) q⟩) l4
      | tup h1 h2 => cases ru; exact repr_of_reads' rr l1 (PyData.noDict_hsm l2) hgr (by omega) (fun _ _ e => e) (fun h' u tk hk => ⟨.str _, H, I.kept hk, ⟨u, rfl⟩, rpa_same (.str _) q⟩) l4
      | dic h1 h2 h3 => simp [PyData.hasDict] at l2
    · cases hb
  case h_23 =>
    split at hb
    · rename_i hl
      cases hb
      obtain ⟨u, rfl, r⟩ := rpa1 rd
      cases r
      exact call_str_int pins s σ H _ vs Q I rv ⟨_, rfl, hl, rpa_same (.str _) q⟩
    · cases hb
  case h_24 => cases hb
end
end Ev

set_option Elab.async false
set_option autoImplicit false
set_option linter.all false
set_option maxRecDepth 100000
set_option maxHeartbeats 1000000
/-! What the evaluator gives of an expression, the machine does: the readings. -/
namespace Ev
open PySem PySem.Spec PyProof.Rows L2
/-- the program's table: constants, defs (name, parameters, whether repr is asked within), error classes -/
structure Tab where
  gls : List (Str × PyData)
  fns : List (Str × List Str × Bool)
  lw : Option (Nat × Str)
  exs : List Str
structure Sx where
  K : PySem.W.Frag
  mg : Str → Option Value
  T : Tab
  gm : Nat → Gm
  M : Gm
  W : WX
  s : TpS
  stp : Bool
  lv : Nat
def Post {α : Type} (q : Res α) (ko : α → Tp → Prop) (kx : Nat → List PyData → Tp → Prop) : Prop := match q with
  | .ok a t => ko a t
  | .exc c p t => kx c p t
  | .bad => False
theorem Post.bind {α β : Type} {q : Res α} {f : α → Tp → Res β} {ko : β → Tp → Prop} {kx : Nat → List PyData → Tp → Prop} (h : Post (q.bind f) ko kx) : Post q (fun a t => Post (f a t) ko kx) kx := by
  cases q <;> exact h
theorem Post.mono {α : Type} {q : Res α} {ko ko' : α → Tp → Prop} {kx kx' : Nat → List PyData → Tp → Prop} (h : Post q ko kx) (h1 : ∀ a t, ko a t → ko' a t) (h2 : ∀ c p t, kx c p t → kx' c p t) : Post q ko' kx' := by
  cases q with
  | ok a t => exact h1 a t h
  | exc c p t => exact h2 c p t h
  | bad => exact h
theorem Post.lift {α : Type} {o : Option α} {t : Tp} {ko : α → Tp → Prop} {kx : Nat → List PyData → Tp → Prop} (h : Post (lift o t) ko kx) : ∃ a, o = some a ∧ ko a t := by
  cases o with
  | none => exact h.elim
  | some a => exact ⟨a, rfl, h⟩
theorem Post.okk {α : Type} {a : α} {t : Tp} {ko : α → Tp → Prop} {kx : Nat → List PyData → Tp → Prop} (h : Post (.ok a t) ko kx) : ko a t := h
/-- an error's class and its own dict -/
def ExR (S : Sx) (c : Nat) (p : List PyData) (cls : Value) (d : Option Addr) (H : Hp) : Prop :=
  ∃ x C, S.T.exs[c]? = some x ∧ S.mg x = some (.ref C) ∧ cls = .ref C ∧ p = [] ∧ d = none
def PX (S : Sx) (aT : TpA) (F : Addr → Prop) (fl : Flg) (r : Env) (σ : L2.St) (H : Hp) : Nat → List PyData → Tp → Prop := fun c p t' =>
  ∀ cls d H' F1, Go aT F H F1 H' → Rel S.K aT F1 fl r t' σ H' → ExR S c p cls d H' → S.W cls d σ H'
theorem PX.go {S : Sx} {aT : TpA} {F F1 : Addr → Prop} {fl : Flg} {r : Env} {σ : L2.St} {H H1 : Hp} {c : Nat} {p : List PyData} {t : Tp} (h : PX S aT F fl r σ H c p t) (g : Go aT F H F1 H1) : PX S aT F1 fl r σ H1 c p t :=
  fun cls d H' F2 g2 R e => h cls d H' F2 (g.trans g2) R e
/-- an expression's reading -/
def tE (S : Sx) (e : Ex) : TE := fun σ H Q => ∃ aT F fl r t, aT.s = S.s ∧ Rel S.K aT F fl r t σ H ∧ Post (ev S.M e r t) (fun x t' =>
  ∀ v H' F1, Go aT F H F1 H' → Rel S.K aT F1 fl r t' σ H' → VR S.K H H' F1 (OA fl σ (retE e)) (fresh e) v x → Q v H') (PX S aT F fl r σ H)
/-- at a statement's root -/
def tR (S : Sx) (e : Ex) : TE := fun σ H Q => ∃ aT F fl r t, aT.s = S.s ∧ Rel S.K aT F fl r t σ H ∧ Post (evR S.M e r t) (fun x t' =>
  ∀ v H' F1, Go aT F H F1 H' → Rel S.K aT F1 fl r t' σ H' → VR S.K H H' F1 (OA fl σ (retE e)) x.2 v x.1 → Q v H') (PX S aT F fl r σ H)
/-- a test's -/
def tT (S : Sx) (e : Ex) : TT := fun σ H Q => ∃ aT F fl r t, aT.s = S.s ∧ Rel S.K aT F fl r t σ H ∧ Post ((ev S.M e r t).bind fun x t => lift (truthD x) t) (fun b t' =>
  ∀ H' F1, Go aT F H F1 H' → Rel S.K aT F1 fl r t' σ H' → Q b H') (PX S aT F fl r σ H)
/-- an argument -/
def AgR (K : PySem.W.Frag) (aT : TpA) (H : Hp) (A : Addr → Prop) (u : V) : Vl → Prop
  | .d x => Rp K H A u x
  | .tp => ∃ a, u = .ref a ∧ aT.a = some a
  | .scr ns => ∃ a, u = .ref a ∧ ScrR K A H a ns
  | _ => False
inductive AgsR (K : PySem.W.Frag) (aT : TpA) (H : Hp) (A : Addr → Prop) : List V → List Vl → Prop
  | nil : AgsR K aT H A [] []
  | cons {u : V} {us : List V} {v : Vl} {vs : List Vl} : AgR K aT H A u v → AgsR K aT H A us vs → AgsR K aT H A (u :: us) (v :: vs)
def tA (S : Sx) (e : Ex) : TA := fun σ H Q => ∃ aT F fl r t, aT.s = S.s ∧ Rel S.K aT F fl r t σ H ∧ Post (evs S.M e r t) (fun xs t' =>
  ∀ us H' F1, Go aT F H F1 H' → Rel S.K aT F1 fl r t' σ H' → AgsR S.K aT H' (fun a => F1 a ∨ OA fl σ (retE e) a) us xs → Q us H') (PX S aT F fl r σ H)
section
variable {K : PySem.W.Frag} {aT : TpA} {F F1 : Addr → Prop} {fl : Flg} {r : Env} {t t' : Tp} {σ : L2.St} {H H' : Hp}
theorem TR.ext (R : TR K aT F t H) (h : ∀ a o, H a = some o → H' a = some o) : TR K aT F t H' := by
  refine ⟨fun a ha => ?_, fun ts ht => ?_, R.none, R.tabs.ext h⟩
  · obtain ⟨o, e, p⟩ := R.dom a ha
    exact ⟨o, h a o e, p⟩
  · obtain ⟨a, xs, e1, e2, e3, e4, e5⟩ := R.tape ts ht
    exact ⟨a, xs, e1, h _ _ e2, e3, e4, e5.keep (keep_all h) fun _ z => z⟩
/-- all stays, more comes -/
theorem Rel.ext (R : Rel K aT F fl r t σ H) (h : ∀ a o, H a = some o → H' a = some o) : Rel K aT F fl r t σ H' := by
  have k : Keep F H H' := keep_all h
  refine ⟨R.toTR.ext h, R.len, fun i v hv => ?_, R.own, R.dis⟩
  · obtain ⟨x, hx, q⟩ := R.slot i v hv
    refine ⟨x, hx, ?_⟩
    unfold SltR at q ⊢
    by_cases hf : fl i = true
    · rw [if_pos hf] at q ⊢
      obtain ⟨a, e, nF, nT, q⟩ := q
      refine ⟨a, e, nF, nT, ?_⟩
      rcases q with ⟨xs, ds, e1, e2, e3⟩ | ⟨kvs, ds, e1, e2, e3⟩
      · exact .inl ⟨xs, ds, e1, h _ _ e2, e3.keep k fun _ z => z⟩
      · exact .inr ⟨kvs, ds, e1, h _ _ e2, e3.keep k fun _ z => z⟩
    · rw [if_neg hf] at q ⊢
      cases v with
      | d y => exact Rp.keep q k fun _ z => z
      | scr ns =>
        obtain ⟨a, e1, e2⟩ := q
        exact ⟨a, e1, e2.keep k fun _ z => z⟩
      | lam b q0 =>
        obtain ⟨lm, l1, l2, l3, l4, l5⟩ := q
        exact ⟨lm, l1, l2, l3, k.e _ _ l4, l5.keep k fun _ z => z⟩
      | _ => exact q
/-- a fresh container is frozen -/
theorem freeze (R : Rel K aT F fl r t σ H) (g : Go aT F H F1 H') (R1 : Rel K aT F1 fl r t' σ H') {O : Addr → Prop} {fr : Bool} {v : V} {x : PyData} (h : VR K H H' F1 O fr v x) :
    ∃ F2, Go aT F H F2 H' ∧ Rel K aT F2 fl r t' σ H' ∧ (∀ a, F1 a → F2 a) ∧ Rp K H' (fun a => F2 a ∨ O a) v x := by
  rcases h with h | ⟨_, a, rfl, hn, nF, h⟩
  · exact ⟨F1, g, R1, fun _ z => z, h.2⟩
  · have hp : ∃ o, H' a = some o ∧ Pl o := by
      rcases h with ⟨xs, ds, _, e, _⟩ | ⟨kvs, ds, _, e, _⟩ <;> exact ⟨_, e, True.intro⟩
    have sub : ∀ b, F1 b → (F1 b ∨ b = a) := fun b z => .inl z
    have nT : aT.a ≠ some a := fun e => by
      cases ht : t with
      | none => rw [R.none ht] at e; cases e
      | some ts =>
        obtain ⟨b, xs, e1, e2, _⟩ := R.tape ts ht
        rw [e1] at e
        cases e
        exact hn.no e2 fun _ z => by cases z
    refine ⟨fun b => F1 b ∨ b = a, ⟨g.nx, fun b z => .inl (g.gr b z), fun b z => ?_, g.no⟩, ⟨⟨fun b z => ?_, fun ts ht => ?_, R1.none, R1.tabs⟩, R1.len, fun i v hv => ?_, R1.own, R1.dis⟩, sub, ?_⟩
    · rcases z with z | z
      · exact g.nw b z
      · subst z; exact .inr hn
    · rcases z with z | z
      · exact R1.dom b z
      · subst z; exact hp
    · obtain ⟨b, xs, e1, e2, e3, e4, e5⟩ := R1.tape ts ht
      refine ⟨b, xs, e1, e2, fun z => ?_, fun c z => .inl (e4 c z), e5⟩
      rcases z with z | z
      · exact e3 z
      · subst z; exact nT e1
    · obtain ⟨x', hx, q⟩ := R1.slot i v hv
      refine ⟨x', hx, ?_⟩
      unfold SltR at q ⊢
      by_cases hf : fl i = true
      · rw [if_pos hf] at q ⊢
        obtain ⟨b, e, nb, nb2, q⟩ := q
        subst e
        obtain ⟨v0, x0, _, hx0, b0, eb0, _, _, q0⟩ := R.ownR hf
        rw [hx] at hx0
        cases hx0
        cases eb0
        refine ⟨b, rfl, fun z => ?_, nb2, ?_⟩
        · rcases z with z | z
          · exact nb z
          · subst z
            rcases q0 with ⟨_, _, _, e, _⟩ | ⟨_, _, _, e, _⟩ <;> exact (hn.no e fun _ z => by cases z).elim
        · rcases q with ⟨xs, ds, e1, e2, e3⟩ | ⟨kvs, ds, e1, e2, e3⟩
          · exact .inl ⟨xs, ds, e1, e2, e3.mono sub⟩
          · exact .inr ⟨kvs, ds, e1, e2, e3.mono sub⟩
      · rw [if_neg hf] at q ⊢
        cases v with
        | d y => exact Rp.mono q sub
        | scr ns =>
          obtain ⟨a, e1, e2⟩ := q
          exact ⟨a, e1, e2.keep .refl sub⟩
        | lam b q0 =>
          obtain ⟨lm, l1, l2, l3, l4, l5⟩ := q
          exact ⟨lm, l1, l2, l3, l4, l5.keep .refl sub⟩
        | _ => exact q
    · have up : ∀ b, (F1 b ∨ O b) → ((F1 b ∨ b = a) ∨ O b) := fun b z => z.elim (fun z => .inl (.inl z)) .inr
      rcases h with ⟨xs, ds, e1, e2, e3⟩ | ⟨kvs, ds, e1, e2, e3⟩
      · subst e1
        exact .lst ⟨e2, .inl (.inr rfl)⟩ (e3.mono up)
      · subst e1
        exact .dic e2 (.inl (.inr rfl)) (e3.mono up)
theorem OA.sub {is js : List Nat} (h : ∀ i ∈ is, i ∈ js) {a : Addr} (z : OA fl σ is a) : OA fl σ js a := by
  obtain ⟨i, hi, q⟩ := z
  exact ⟨i, h i hi, q⟩
theorem Rel.keepR (R : Rel K aT F fl r t σ H) (g : Go aT F H F1 H') (is : List Nat) : Keep (fun a => F a ∨ OA fl σ is a) H H' := R.keepO g.nx
/-- what was read before stays so -/
theorem Rp.go {is js : List Nat} {v : V} {x : PyData} (h : Rp K H (fun a => F a ∨ OA fl σ is a) v x) (R : Rel K aT F fl r t σ H) (g : Go aT F H F1 H') (hs : ∀ i ∈ is, i ∈ js) : Rp K H' (fun a => F1 a ∨ OA fl σ js a) v x :=
  h.keep (R.keepR g is) fun a z => z.elim (fun z => .inl (g.gr a z)) fun z => .inr (z.sub hs)
theorem AgR.go {is js : List Nat} {u : V} {v : Vl} (h : AgR K aT H (fun a => F a ∨ OA fl σ is a) u v) (R : Rel K aT F fl r t σ H) (g : Go aT F H F1 H') (hs : ∀ i ∈ is, i ∈ js) : AgR K aT H' (fun a => F1 a ∨ OA fl σ js a) u v := by
  cases v with
  | d x => exact Rp.go h R g hs
  | tp => exact h
  | scr ns =>
    obtain ⟨a, e1, e2⟩ := h
    exact ⟨a, e1, e2.keep (R.keepR g is) fun a z => z.elim (fun z => .inl (g.gr a z)) fun z => .inr (z.sub hs)⟩
  | _ => exact h
end
/-- an expression is used, its value frozen -/
theorem useE {S : Sx} {e : Ex} {aT : TpA} {F : Addr → Prop} {fl : Flg} {r : Env} {t : Tp} {σ : L2.St} {H : Hp} {Q : VK} (R : Rel S.K aT F fl r t σ H)
    (h : Post (ev S.M e r t) (fun x t' => ∀ v H' F1, Go aT F H F1 H' → Rel S.K aT F1 fl r t' σ H' → Rp S.K H' (fun a => F1 a ∨ OA fl σ (retE e) a) v x → Q v H') (PX S aT F fl r σ H)) (hst : aT.s = S.s := by assumption) : tE S e σ H Q :=
  ⟨aT, F, fl, r, t, hst, R, h.mono (fun x t' k v H' F1 g R1 V1 => by
    obtain ⟨F2, g2, R2, _, V2⟩ := freeze R g R1 V1
    exact k v H' F2 g2 R2 V2) fun _ _ _ k => k⟩
theorem useT {S : Sx} {e : Ex} {aT : TpA} {F : Addr → Prop} {fl : Flg} {r : Env} {t : Tp} {σ : L2.St} {H : Hp} {Q : Bool → Hp → Prop} (R : Rel S.K aT F fl r t σ H)
    (h : Post ((ev S.M e r t).bind fun x t => lift (truthD x) t) (fun b t' => ∀ H' F1, Go aT F H F1 H' → Rel S.K aT F1 fl r t' σ H' → Q b H') (PX S aT F fl r σ H)) (hst : aT.s = S.s := by assumption) : tT S e σ H Q := ⟨aT, F, fl, r, t, hst, R, h⟩
theorem useA {S : Sx} {e : Ex} {aT : TpA} {F : Addr → Prop} {fl : Flg} {r : Env} {t : Tp} {σ : L2.St} {H : Hp} {Q : List V → Hp → Prop} (R : Rel S.K aT F fl r t σ H)
    (h : Post (evs S.M e r t) (fun xs t' => ∀ us H' F1, Go aT F H F1 H' → Rel S.K aT F1 fl r t' σ H' → AgsR S.K aT H' (fun a => F1 a ∨ OA fl σ (retE e) a) us xs → Q us H') (PX S aT F fl r σ H)) (hst : aT.s = S.s := by assumption) : tA S e σ H Q := ⟨aT, F, fl, r, t, hst, R, h⟩
/-- what an operation made, as an expression's value -/
theorem VR.of {K : PySem.W.Frag} {aT : TpA} {F : Addr → Prop} {fl : Flg} {r : Env} {t : Tp} {σ : L2.St} {H0 H H' : Hp} {O : Addr → Prop} {fr : Bool} {w : V} {z : PyData} (R : Rel K aT F fl r t σ H) (no : ∀ a, Nw H a → Nw H0 a)
    (h : ORes K H (fun a => F a ∨ O a) z w H') (hf : isMut z = true → fr = true) : VR K H0 H' F O fr w z := by
  obtain ⟨_, h | ⟨p, e, hp, h⟩⟩ := h
  · exact .inl ⟨by rw [h.1, Bool.and_false], h.2⟩
  · have hm : isMut z = true := by
      rcases h with ⟨xs, ds, e, _⟩ | ⟨kvs, ds, e, _⟩ <;> (subst e; rfl)
    refine .inr ⟨hf hm, p, e, no p (.of hp), fun z => ?_, h⟩
    obtain ⟨o, q, _⟩ := R.dom p z
    rw [hp] at q
    cases q
theorem VR.rp {K : PySem.W.Frag} {H H' : Hp} {F O : Addr → Prop} {fr : Bool} {w : V} {z : PyData} (h : Rp K H' (fun a => F a ∨ O a) w z) (hf : (fr && isMut z) = false := by rfl) : VR K H H' F O fr w z := .inl ⟨hf, h⟩
end Ev

set_option Elab.async false
set_option autoImplicit false
set_option linter.all false
set_option maxRecDepth 100000
set_option maxHeartbeats 1000000
/-! The rules, one a construct. -/
namespace Ev
open PySem PySem.Spec PyProof.Rows L2
structure Ck where
  sc : Scope
  N : List Str
  T : Tab
  calm : Bool
  gd : Bool
  fb : Scope
  top : Bool
  sui : Bool
  lam : Bool
  lmn : Option Str
  stp : Bool
def bname : Bi → Str
  | .len => "len" | .abs => "abs" | .int => "int" | .bool => "bool" | .min => "min" | .max => "max" | .sum => "sum"
  | .sorted => "sorted" | .all => "all" | .any => "any" | .list => "list" | .tuple => "tuple" | .repr => "repr" | .str => "str"
def isType : Bi → Bool
  | .int | .bool | .list | .tuple | .str => true
  | _ => false
def blts : List Str := ["len", "abs", "int", "bool", "min", "max", "sum", "sorted", "all", "any", "list", "tuple", "repr", "str", "dict", "isinstance", "range", "enumerate", "zip", "reversed", "set", "ValueError"]
/-- what a callee promises its caller -/
def spC (S : Sx) (f : Nat) : Sp := fun us H Q E => ∃ aT F t vs, aT.s = S.s.base ∧ TR S.K aT F t H ∧ AgsR S.K aT H F us vs ∧ Post (S.M.cl f vs t) (fun x t' =>
  ∀ v H' F1, Go aT F H F1 H' → TR S.K aT F1 t' H' → VR S.K H H' F1 (fun _ => False) x.2 v x.1 → Q v H') (fun c p t' =>
  ∀ cls d H' F1, Go aT F H F1 H' → TR S.K aT F1 t' H' → ExR S c p cls d H' → E cls d H')
/-- the name x is a def, and its call keeps the promise, in every frame with room for it -/
structure CallOk (S : Sx) (P : Program) (w : World) (base : Heap) (lv : Nat) (f : Nat) (x : Str) (g : Bool) : Prop where
  ex : ∃ fa, S.mg x = some (.ref fa) ∧ PySem.W.keepIn S.K (.ref fa) = true ∧ ∀ (X : Cx) (W : WX), X.prog = P → X.w = w → X.K = S.K → X.mg = S.mg → X.base = base → Room (lv + 1) X.A → (g = true → X.A.guards = some []) → Takes X W →
    ∀ (pins : List (Addr × Obj)) (s : Shared) (σ : L2.St) (H : Hp) (us : List Value) (vs : List V) (Q : VK), Inv X pins σ H s → Vals vs us →
    spC S f vs H Q (WE W σ) → wpAny (model X.prog X.w) X.A (PySem.call (.ref fa) us) (EP X pins σ Q) X.xe s
def vErr : List Value := [.type "ValueError", .type "Exception", .type "BaseException", .type "object"]
/-- an own error class, as it is made, raised, asked for -/
structure ExcOk (K : PySem.W.Frag) (C : Addr) : Prop where
  q : PySem.W.excIn K C vErr "ValueError.__new__" = true
  kp : PySem.W.keepIn K (.ref C) = true
  sb : PySem.W.subIn K (.ref C) (.type "BaseException") = some true
  ty : PySem.W.typeIn K (.ref C) = some (.type "type")
  is : ExcC K C
/-- the lambda's call -/
def tAct (S : Sx) (lm : LmC) (E : XK) (HZ : Hp) (Q : VK) : Prop := ∃ aT F r t, aT.s = S.s.base ∧ Rel S.K aT F (fun _ => false) r t lm.σ HZ ∧ Post (S.M.act lm.b r t) (fun y t' => ∀ v H' F1, Go aT F HZ F1 H' → Rel S.K aT F1 (fun _ => false) r t' lm.σ H' → Rp S.K H' F1 v y → Q v H')
  (fun c p t' => ∀ cls d H' F1, Go aT F HZ F1 H' → Rel S.K aT F1 (fun _ => false) r t' lm.σ H' → ExR S c p cls d H' → E cls d H')
/-- the lambda that this frame got -/
structure LamOk (S : Sx) (X : Cx) (lm : LmC) : Prop where
  act : ∀ (W : WX) (pn : List (Addr × Obj)) (xe : Value → Shared → Prop) (E : XK) (p1 p2 : Pos), Takes (X.tr pn xe) W → (∀ cls d σ' H', E cls d H' → W cls d σ' H') →
      PE (X.tr pn xe) (.Call (.Name lm.a p1) [] [] p2) (fun σZ HZ Q => σZ[0]? = some (some (.ref lm.f)) ∧ HZ lm.c = some (LamX.CodeO lm.c lm.q) ∧ tAct S lm E HZ Q)
def Sx.lev (S : Sx) (l : Nat) : Sx := { S with M := S.gm l, lv := l }
/-- the def that gets a lambda, called with one -/
structure LwOk (S : Sx) (P : Program) (w : World) (base : Heap) (lv : Nat) (f : Nat) (x : Str) : Prop where
  run : ∀ (X : Cx) (W : WX), X.prog = P → X.w = w → X.K = S.K → X.mg = S.mg → X.base = base → Room (lv + 1) X.A → Takes X W → Gl X x → X.N.length ≤ 200 →
    (∃ co T, X.env.code = .ref co ∧ LamX.TabB X.base X.mg co T ∧ (T, X.env.qual ++ "<lambda>") ∈ S.s.tb ∧ ∀ p ∈ S.s.tb, p.1 = T → p.2 = X.env.qual ++ "<lambda>") →
    ∀ (params : Arguments) (body : Expr) (scope : Scope) (p lpos pos : Pos) (b : Ex), LamX.LamS X.env.scope scope → defaultsOf params X.env = ([], []) → (∀ (q : Str) (cl : List (Str × Addr)) (pm cv ctv : Value), bindArgs (PySem.W.kla_fn "<lambda>" q params body scope cl pm cv ctv) ⟨[], []⟩ = pure []) →
    (∀ l, lv = l + 2 → ∀ (A : Around) (outer : List PySem.Env) (s : Shared) (H : Hp) (E : XK) (f c' : Addr), Room (l + 1) (A.deeper (LamX.lamEnv X scope s.heap.objs.size f c')) → PE (LamX.lamCx X A outer s H E scope f c') body (tE { S.lev l with W := fun cls d _ H => E cls d H, s := S.s.base } b)) →
    PE X (.Call (.Name x p) [.Lambda params body scope lpos] [] pos) (tR { S.lev lv with W := W, s := S.s.base } (.call f (.cons (.lam b) .nil)))
structure Good (S : Sx) (c : Ck) (X : Cx) : Prop where
  T : c.T = S.T
  K : X.K = S.K
  mg : X.mg = S.mg
  sc : X.env.scope = c.sc
  N : X.N = c.N
  nd : X.N.Nodup
  hu : X.A.units + 150 < cLine
  calm : c.calm = true → X.calm = true
  gd : c.gd = true → X.A.guards = some []
  tk : Takes X S.W
  gl : ∀ k x d, S.T.gls[k]? = some (x, d) → (∀ l, (S.gm l).glb k = some d) ∧ ∃ u v, S.mg x = some u ∧ RelV v u ∧ ∀ H A, Rp S.K H A v d
  gt : ∀ (k : Nat) (x : Str) (ds : List PyData), S.T.gls[k]? = some (x, PyData.tuple ds) → ∃ q o vs, S.mg x = some (.ref q) ∧ S.K.lookup q = some o ∧ o.cls = .type "tuple" ∧ o.dict = none ∧ ∀ H A, SqT S.K H q vs ∧ RpA S.K H A vs ds
  fr : ∀ x ∈ blts, S.mg x = none
  mm : S.M = S.gm S.lv
  rm : c.calm = true → Room (S.lv + 1) X.A
  cl : ∀ (l f : Nat) (x : Str) (ps : List Str) (g : Bool), l ≤ S.lv → S.T.fns[f]? = some (x, ps, g) → x ≠ "" → CallOk (S.lev l) X.prog X.w X.base l f x g
  lw : ∀ (l f : Nat) (x : Str), l ≤ S.lv → S.T.lw = some (f, x) → LwOk S X.prog X.w X.base l f x
  ex : ∀ (k : Nat) (x : Str), S.T.exs[k]? = some x → ∃ C, S.mg x = some (.ref C) ∧ ExcOk S.K C
  ek : ∀ (k l : Nat) (x y : Str) (C D : Addr), S.T.exs[k]? = some x → S.T.exs[l]? = some y → k ≠ 0 → S.mg x = some (.ref C) → S.mg y = some (.ref D) → PySem.W.kitOne S.K (.ref D) (.ref C) = some (decide (k = l))
  ev : ∀ (l : Nat) (y : Str) (D : Addr), S.T.exs[l]? = some y → S.mg y = some (.ref D) → PySem.W.kitOne S.K (.ref D) (.type "ValueError") = some true
  ec : ∀ (l : Nat) (x y : Str) (C D : Addr), S.T.exs[0]? = some x → S.T.exs[l]? = some y → S.mg x = some (.ref C) → S.mg y = some (.ref D) → PySem.W.exmOne S.K (.ref D) (.ref C) = some true
  xn : c.sui = false → S.s.xc = none
  xs : ∀ a k, S.s.xc = some (a, k) → ∃ x C, S.T.exs[k]? = some x ∧ S.mg x = some (.ref C) ∧ CallR X (.builtin "isinstance") (rIsE X.K C a)
  ac : ∀ a, c.lmn = some a → ∃ lm, S.s.lm = some lm ∧ lm.a = a ∧ LamOk S X lm
  ln : c.calm = true → c.lmn = none → S.s.lm = none
  lm : c.lam = true → ∃ co P, X.env.code = .ref co ∧ LamX.TabB X.base X.mg co P ∧ (P, X.env.qual ++ "<lambda>") ∈ S.s.tb ∧ ∀ p ∈ S.s.tb, p.1 = P → p.2 = X.env.qual ++ "<lambda>"
  fn : ∀ x, c.fb.names.lookup x = some .cell → X.fn x = true
  po : c.top = true → PassesOwn (model X.prog X.w) X.A X.env X.xe
  tp : c.top = true → X.stack = X.env :: X.outer ∧ X.env.frame = some X.env.locals
theorem peOf {X : Cx} {e : Expr} {t t' : TE} (h : PE X e t) (f : ∀ σ H Q, t' σ H Q → t σ H Q) : PE X e t' := ⟨fun pins s σ H Q I q => h.run pins s σ H Q I (f σ H Q q)⟩
theorem ptOf {X : Cx} {e : Expr} {t t' : TT} (h : PT X e t) (f : ∀ σ H Q, t' σ H Q → t σ H Q) : PT X e t' := ⟨fun pins s σ H Q I q => h.run pins s σ H Q I (f σ H Q q)⟩
theorem paOf {X : Cx} {e : List Expr} {t t' : TA} (h : PA X e t) (f : ∀ σ H Q, t' σ H Q → t σ H Q) : PA X e t' := ⟨fun pos pins s σ H Q I q => h.run pos pins s σ H Q I (f σ H Q q)⟩
def visB (sc : Scope) (x : Str) : Bool := match sc.names.lookup x with
  | some .local | some .cell | some .free => !decide (x = "__debug__") && !decide (x = "__classdict__")
  | _ => false
def glB (sc : Scope) (x : Str) : Bool := match sc.names.lookup x with
  | some .globalImplicit => !decide (x = "__debug__")
  | _ => false
theorem visB_of {sc : Scope} {x : Str} (h : visB sc x = true) : Vis sc x ∧ (x == ("__debug__" : Str)) = false ∧ (x == ("__classdict__" : Str)) = false := by
  unfold visB at h
  have two : (!decide (x = ("__debug__" : Str)) && !decide (x = ("__classdict__" : Str))) = true → (x == ("__debug__" : Str)) = false ∧ (x == ("__classdict__" : Str)) = false := by
    intro q
    simp only [Bool.and_eq_true, Bool.not_eq_true', decide_eq_false_iff_not] at q
    exact ⟨by simpa using q.1, by simpa using q.2⟩
  split at h
  · rename_i e; exact ⟨.inl e, two h⟩
  · rename_i e; exact ⟨.inr (.inl e), two h⟩
  · rename_i e; exact ⟨.inr (.inr e), two h⟩
  · cases h
theorem glB_of {sc : Scope} {x : Str} (h : glB sc x = true) : sc.names.lookup x = some .globalImplicit ∧ (x == ("__debug__" : Str)) = false := by
  unfold glB at h
  split at h
  · rename_i e
    refine ⟨e, ?_⟩
    simp only [Bool.not_eq_true', decide_eq_false_iff_not] at h
    simpa using h
  · cases h
section
variable {S : Sx} {c : Ck} {X : Cx}
theorem s_var {i : Nat} {x : Str} {pos : Pos} (G : Good S c X) (hN : c.N[i]? = some x) (hv : visB c.sc x = true) : PE X (.Name x pos) (tE S (.var i)) := by
  obtain ⟨h1, h2, h3⟩ := visB_of hv
  refine peOf (pe_var (i := i) (by rw [G.N]; exact hN) (by rw [G.sc]; exact h1) h2 h3) fun σ H Q h => ?_
  obtain ⟨aT, F, fl, r, t, hst, R, h⟩ := h
  have h : Post (match getV r i with | some (.d x) => Res.ok x t | _ => .bad) _ _ := h
  split at h
  · rename_i y e
    obtain ⟨v, hv, rp⟩ := R.rd e
    exact ⟨v, hv, h v H F .refl R (.rp rp)⟩
  · exact h.elim
theorem s_lit {e : Expr} {x : Ex} {v : V} {d : PyData} (hp : PE X e (tC v)) (he : ∀ r t, ev S.M x r t = .ok d t) (hr : ∀ H A, Rp S.K H A v d) (hm : (fresh x && isMut d) = false) : PE X e (tE S x) := by
  refine peOf hp fun σ H Q h => ?_
  obtain ⟨aT, F, fl, r, t, hst, R, h⟩ := h
  rw [he] at h
  exact h v H F .refl R (.rp (hr _ _) hm)
theorem s_glb {k : Nat} {x : Str} {d : PyData} {pos : Pos} (G : Good S c X) (hk : S.T.gls[k]? = some (x, d)) (hg : glB c.sc x = true) : PE X (.Name x pos) (tE S (.glb k)) := by
  obtain ⟨g1, u, v, hm, rv, rp⟩ := G.gl k x d hk
  obtain ⟨h1, h2⟩ := glB_of hg
  refine s_lit (v := v) (d := d) (hm := rfl) (pe_glob (by show X.env.kindOf x = _; unfold Env.kindOf; rw [G.sc]; exact h1) (by rw [G.mg]; exact hm) rv h2) (fun r t => ?_) rp
  show lift (S.M.glb k) t = _
  rw [G.mm, g1] <;> rfl
/-! ### arguments -/
theorem s_nil : PA X [] (tA S .nil) := paOf pa_nil fun σ H Q h => by
  obtain ⟨aT, F, fl, r, t, hst, R, h⟩ := h
  exact h [] H F .refl R .nil
theorem AgsR.go {K : PySem.W.Frag} {aT : TpA} {F F1 : Addr → Prop} {fl : Flg} {r : Env} {t : Tp} {σ : L2.St} {H H' : Hp} {is js : List Nat} : ∀ {us : List V} {vs : List Vl}, AgsR K aT H (fun a => F a ∨ OA fl σ is a) us vs → Rel K aT F fl r t σ H → Go aT F H F1 H' → (∀ i ∈ is, i ∈ js) →
    AgsR K aT H' (fun a => F1 a ∨ OA fl σ js a) us vs
  | _, _, .nil, _, _, _ => .nil
  | _, _, .cons q t, R, g, hs => .cons (AgR.go q R g hs) (AgsR.go t R g hs)
theorem AgR.mono {K : PySem.W.Frag} {aT : TpA} {H : Hp} {A B : Addr → Prop} {u : V} {v : Vl} (h : AgR K aT H A u v) (s : ∀ a, A a → B a) : AgR K aT H B u v := by
  cases v with
  | d x => exact Rp.mono h s
  | scr ns =>
    obtain ⟨a, e1, e2⟩ := h
    exact ⟨a, e1, e2.keep .refl s⟩
  | _ => exact h
theorem AgsR.mono {K : PySem.W.Frag} {aT : TpA} {H : Hp} {A B : Addr → Prop} : ∀ {us : List V} {vs : List Vl}, AgsR K aT H A us vs → (∀ a, A a → B a) → AgsR K aT H B us vs
  | _, _, .nil, _ => .nil
  | _, _, .cons q t, s => .cons (q.mono s) (AgsR.mono t s)
theorem s_cons {a q : Ex} {e : Expr} {es : List Expr} (hn : ∀ r t, evs S.M (.cons a q) r t = (ev S.M a r t).bind fun x t => (evs S.M q r t).bind fun xs t => .ok (.d x :: xs) t) (ha : PE X e (tE S a)) (hq : PA X es (tA S q))
    (hs : starEach (e :: es) X.env = (false, eval e X.env) :: starEach es X.env) : PA X (e :: es) (tA S (.cons a q)) := by
  refine paOf (pa_cons ha hq hs) fun σ H Q h => ?_
  obtain ⟨aT, F, fl, r, t, hst, R, h⟩ := h
  rw [hn] at h
  refine useE R (h.bind.mono (fun x t1 h v H1 F1 g1 R1 V1 => ?_) fun _ _ _ k => k)
  refine useA R1 (h.bind.mono (fun xs t2 h us H2 F2 g2 R2 V2 => ?_) fun _ _ _ k => k.go g1)
  exact h.okk (v :: us) H2 F2 (g1.trans g2) R2 (.cons (V1.go R1 g2 fun i hi => List.mem_append_left _ hi) (V2.mono fun a z => z.elim .inl fun z => .inr (z.sub fun i hi => List.mem_append_right _ hi)))
theorem s_tpv {i : Nat} {q : Ex} {x : Str} {pos : Pos} {es : List Expr} (G : Good S c X) (hN : c.N[i]? = some x) (hv : visB c.sc x = true) (hq : PA X es (tA S q)) : PA X (.Name x pos :: es) (tA S (.cons (.tpv i) q)) := by
  obtain ⟨h1, h2, h3⟩ := visB_of hv
  refine paOf (pa_cons (pe_var (i := i) (by rw [G.N]; exact hN) (by rw [G.sc]; exact h1) h2 h3) hq) fun σ H Q h => ?_
  obtain ⟨aT, F, fl, r, t, hst, R, h⟩ := h
  have h : Post (match getV r i with | some .tp => (evs S.M q r t).bind fun xs t => Res.ok (.tp :: xs) t | _ => .bad) _ _ := h
  split at h
  · rename_i e
    obtain ⟨v, hv, rp⟩ := R.slot i _ e
    refine ⟨v, hv, ?_⟩
    have ht : ∃ a, v = .ref a ∧ aT.a = some a := by
      unfold SltR at rp
      split at rp
      · obtain ⟨a, _, _, _, z⟩ := rp
        rcases z with ⟨_, _, z, _⟩ | ⟨_, _, z, _⟩ <;> cases z
      · exact rp
    refine useA R (h.bind.mono (fun xs t2 h us H2 F2 g2 R2 V2 => ?_) fun _ _ _ k => k)
    exact h.okk (v :: us) H2 F2 g2 R2 (.cons ht (V2.mono fun a z => z.elim .inl fun z => .inr (z.sub fun i hi => List.mem_append_right _ hi)))
  · exact h.elim
theorem s_scv {i : Nat} {q : Ex} {x : Str} {pos : Pos} {es : List Expr} (G : Good S c X) (hN : c.N[i]? = some x) (hv : visB c.sc x = true) (hq : PA X es (tA S q)) : PA X (.Name x pos :: es) (tA S (.cons (.scv i) q)) := by
  obtain ⟨h1, h2, h3⟩ := visB_of hv
  refine paOf (pa_cons (pe_var (i := i) (by rw [G.N]; exact hN) (by rw [G.sc]; exact h1) h2 h3) hq) fun σ H Q h => ?_
  obtain ⟨aT, F, fl, r, t, hst, R, h⟩ := h
  have h : Post (match getV r i with | some (.scr ns) => (evs S.M q r t).bind fun xs t => Res.ok (.scr ns :: xs) t | _ => .bad) _ _ := h
  split at h
  · rename_i ns e
    obtain ⟨v, hv, rp⟩ := R.slot i _ e
    refine ⟨v, hv, ?_⟩
    have ht : ∃ a, v = .ref a ∧ ScrR S.K F H a ns := by
      unfold SltR at rp
      split at rp
      · obtain ⟨a, _, _, _, z⟩ := rp
        rcases z with ⟨_, _, z, _⟩ | ⟨_, _, z, _⟩ <;> cases z
      · exact rp
    obtain ⟨a, e1, e2⟩ := ht
    refine useA R (h.bind.mono (fun xs t2 h us H2 F2 g2 R2 V2 => ?_) fun _ _ _ k => k)
    exact h.okk (v :: us) H2 F2 g2 R2 (.cons ⟨a, e1, e2.keep (R.keepF g2.nx) fun a z => .inl (g2.gr a z)⟩ (V2.mono fun a z => z.elim .inl fun z => .inr (z.sub fun i hi => List.mem_append_right _ hi)))
  · exact h.elim
/-- data arguments -/
theorem AgsR.data {K : PySem.W.Frag} {aT : TpA} {H : Hp} {A : Addr → Prop} : ∀ {us : List V} {vs : List Vl} {ds : List PyData}, AgsR K aT H A us vs → allD vs = some ds → RpA K H A us ds
  | _, _, _, .nil, h => by cases h; exact .nil
  | _, _, _, .cons (v := v) q t, h => by
    cases v with
    | d x =>
      obtain ⟨ds, e1, e2⟩ := Option.map_eq_some_iff.mp (show (allD _).map (x :: ·) = some _ from h)
      subst e2
      exact .cons q (AgsR.data t e1)
    | _ => cases h
/-! ### operations -/
theorem t_op2 {e a b : Ex} {f : PyData → PyData → Option PyData} {rr : R2} (he : ∀ r t, ev S.M e r t = (ev S.M a r t).bind fun x t => (ev S.M b r t).bind fun y t => lift (f x y) t) (js : List Nat) (hja : ∀ i ∈ retE a, i ∈ js) (hjb : ∀ i ∈ retE b, i ∈ js)
    (hr : ∀ u v H Q, (∃ A x y z, Rp S.K H A u x ∧ Rp S.K H A v y ∧ f x y = some z ∧ ∀ w H', ORes S.K H A z w H' → Q w H') → rr u v H Q)
    (hv : ∀ aT F t r fl σ H0 H H' w x y z, f x y = some z → Rel S.K aT F fl r t σ H → (∀ a, Nw H a → Nw H0 a) → ORes S.K H (fun a => F a ∨ OA fl σ js a) z w H' → VR S.K H0 H' F (OA fl σ (retE e)) (fresh e) w z) {σ : L2.St} {H : Hp} {Q : VK} (h : tE S e σ H Q) : tOp rr (tE S a) (tE S b) σ H Q := by
  obtain ⟨aT, F, fl, r, t, hst, R, h⟩ := h
  rw [he] at h
  refine useE R (h.bind.mono (fun x t1 h v H1 F1 g1 R1 V1 => ?_) fun _ _ _ k => k)
  refine useE R1 (h.bind.mono (fun y t2 h u H2 F2 g2 R2 V2 => ?_) fun _ _ _ k => k.go g1)
  obtain ⟨z, hz, k⟩ := h.lift
  exact hr _ _ _ _ ⟨fun a => F2 a ∨ OA fl σ js a, x, y, z, V1.go R1 g2 hja, V2.mono fun a z => z.elim .inl fun z => .inr (z.sub hjb), hz, fun w H' o =>
    k w H' F2 ((g1.trans g2).trans (Go.ext o.1)) (R2.ext o.1) (hv _ _ _ _ _ _ _ _ _ _ _ _ _ hz R2 (g1.trans g2).no o)⟩
theorem s_bin {o : BOp} {a b : Ex} {x y : Expr} {pos : Pos} (G : Good S c X) (ha : PE X x (tE S a)) (hb : PE X y (tE S b)) : PE X (.BinOp x (bop o) y pos) (tE S (.bin o a b)) := by
  have op := opB (X := X) o
  rw [G.K] at op
  refine peOf (pe_op op ha hb) fun σ H Q h => t_op2 (e := .bin o a b) (f := binD o) (fun _ _ => rfl) (retE a ++ retE b) (fun i hi => List.mem_append_left _ hi) (fun i hi => List.mem_append_right _ hi) (fun u v H Q q => q)
    (fun aT F t r fl σ H0 H H' w x y z _ R no o' => VR.of (O := OA fl σ (retE a ++ retE b)) R no o' fun _ => rfl) h
/-- a scalar that comes -/
theorem vr_flat {K : PySem.W.Frag} {H0 H H' : Hp} {A F O : Addr → Prop} {fr : Bool} {w : V} {z : PyData} (hf : flatD z = true) (o : ORes K H A z w H') : VR K H0 H' F O fr w z := by
  obtain ⟨_, ⟨_, o⟩ | ⟨p, _, _, o⟩⟩ := o
  · cases o with
    | non => exact .rp .non (by simp [isMut])
    | bl b => exact .rp (.bl b) (by simp [isMut])
    | int i => exact .rp (.int i) (by simp [isMut])
    | str x => exact .rp (.str x) (by simp [isMut])
    | _ => simp [flatD] at hf
  · rcases o with ⟨_, _, e, _⟩ | ⟨_, _, e, _⟩ <;> (subst e; simp [flatD] at hf)
theorem rp_flat {K : PySem.W.Frag} {H H' : Hp} {A B : Addr → Prop} {w : V} {z : PyData} (hf : flatD z = true) (o : Rp K H A w z) : Rp K H' B w z := by
  cases o with
  | non => exact .non
  | bl b => exact .bl b
  | int i => exact .int i
  | str x => exact .str x
  | _ => simp [flatD] at hf
theorem vr_scal {K : PySem.W.Frag} {H0 H : Hp} {F O : Addr → Prop} {fr : Bool} (b : Bool) : VR K H0 H F O fr (.bl b) (.bool b) := .rp (.bl b) (by simp [isMut])
/-- an expression that gives a truth value, as a test -/
theorem tT_bool {e : Ex} (hb : ∀ r t x t', ev S.M e r t = .ok x t' → ∃ k, x = .bool k) {σ : L2.St} {H : Hp} {Q : Bool → Hp → Prop} (h : tT S e σ H Q) : tE S e σ H fun v H' => ∃ k, v = .bl k ∧ Q k H' := by
  obtain ⟨aT, F, fl, r, t, hst, R, h⟩ := h
  refine ⟨aT, F, fl, r, t, hst, R, ?_⟩
  cases e2 : ev S.M e r t with
  | ok x t' =>
    obtain ⟨k, rfl⟩ := hb _ _ _ _ e2
    rw [e2] at h
    have h : Post (lift (truthD (.bool k)) t') _ _ := h
    obtain ⟨k', e3, h⟩ := h.lift
    cases e3
    intro v H' F1 g R1 V1
    rcases V1 with ⟨_, V1⟩ | ⟨_, a, _, _, _, z⟩
    · cases V1
      exact ⟨k, rfl, h H' F1 g R1⟩
    · rcases z with ⟨_, _, z, _⟩ | ⟨_, _, z, _⟩ <;> cases z
  | exc c p t' => rw [e2] at h; exact h
  | bad => rw [e2] at h; exact h
/-- .. by its truth -/
theorem tT_any {e : Ex} {σ : L2.St} {H : Hp} {Q : Bool → Hp → Prop} (h : tT S e σ H Q) : tE S e σ H fun v H' => ∃ k, TruV S.K v H' k ∧ Q k H' := by
  obtain ⟨aT, F, fl, r, t, hst, R, h⟩ := h
  refine useE R (h.bind.mono (fun x t' h v H' F1 g R1 V1 => ?_) fun _ _ _ k => k)
  obtain ⟨k, e, h⟩ := h.lift
  exact ⟨k, truX V1 e, h H' F1 g R1⟩
theorem Post.unbind {α β : Type} {q : Res α} {f : α → Tp → Res β} {ko : β → Tp → Prop} {kx : Nat → List PyData → Tp → Prop} (h : Post q (fun a t => Post (f a t) ko kx) kx) : Post (q.bind f) ko kx := by
  cases q <;> exact h
theorem bind_ok {α β : Type} {q : Res α} {f : α → Tp → Res β} {b : β} {t' : Tp} (h : q.bind f = .ok b t') : ∃ a t, q = .ok a t ∧ f a t = .ok b t' := by
  cases q with
  | ok a t => exact ⟨a, t, rfl, h⟩
  | exc c p t => cases h
  | bad => cases h
theorem lift_ok {α : Type} {o : Option α} {t t' : Tp} {a : α} (h : lift o t = .ok a t') : o = some a := by
  cases o with
  | none => cases h
  | some b => cases h; rfl
theorem s_cmp {o : COp} {a b : Ex} {x y : Expr} {pos : Pos} (G : Good S c X) (ha : PE X x (tE S a)) (hb : PE X y (tE S b)) (hm : behindInMarks (cop o) y = false) : PE X (.Compare x [cop o] [y] pos) (tE S (.cmp o a b)) ∧ PT X (.Compare x [cop o] [y] pos) (tT S (.cmp o a b)) := by
  have op := opC (X := X) (by have := G.hu; omega) o
  rw [G.K] at op
  have key : ∀ σ H Q, tE S (.cmp o a b) σ H Q → tOp (rC S.K o) (tE S a) (tE S b) σ H Q := fun σ H Q h =>
    t_op2 (e := .cmp o a b) (f := fun x y => (cmpD o x y).map .bool) (fun _ _ => rfl) (retE a ++ retE b) (fun i hi => List.mem_append_left _ hi) (fun i hi => List.mem_append_right _ hi)
      (fun u v H Q ⟨A, x, y, z, h1, h2, h3, k⟩ => by
        obtain ⟨b', e1, rfl⟩ := Option.map_eq_some_iff.mp h3
        exact ⟨A, A, x, y, b', h1, h2, e1, k _ _ (.same (.bl b'))⟩)
      (fun aT F t r fl σ H0 H H' w x y z hz R no o' => by
        obtain ⟨b', _, rfl⟩ := Option.map_eq_some_iff.mp hz
        exact vr_flat rfl o') h
  exact ⟨peOf (pe_cmpR op ha hb hm) key, ptOf (pt_cmpR op ha hb hm) fun σ H Q h => key _ _ _ (tT_bool (fun r t x t' e => by
    obtain ⟨_, _, _, e⟩ := bind_ok e
    obtain ⟨_, _, _, e⟩ := bind_ok e
    obtain ⟨k, _, rfl⟩ := Option.map_eq_some_iff.mp (lift_ok e)
    exact ⟨k, rfl⟩) h)⟩
theorem t_op1 {e a : Ex} {f : PyData → Option PyData} {rr : V → Hp → VK → Prop} (he : ∀ r t, ev S.M e r t = (ev S.M a r t).bind fun x t => lift (f x) t)
    (hr : ∀ u H Q, (∃ A x z, Rp S.K H A u x ∧ f x = some z ∧ ∀ w H', ORes S.K H A z w H' → Q w H') → rr u H Q)
    (hv : ∀ aT F t r fl σ H0 H H' w x z, f x = some z → Rel S.K aT F fl r t σ H → (∀ a, Nw H a → Nw H0 a) → ORes S.K H (fun b => F b ∨ OA fl σ (retE a) b) z w H' → VR S.K H0 H' F (OA fl σ (retE e)) (fresh e) w z) {σ : L2.St} {H : Hp} {Q : VK} (h : tE S e σ H Q) : tE S a σ H fun x H1 => rr x H1 Q := by
  obtain ⟨aT, F, fl, r, t, hst, R, h⟩ := h
  rw [he] at h
  refine useE R (h.bind.mono (fun x t1 h v H1 F1 g1 R1 V1 => ?_) fun _ _ _ k => k)
  obtain ⟨z, hz, k⟩ := h.lift
  exact hr _ _ _ ⟨_, x, z, V1, hz, fun w H' o => k w H' F1 (g1.trans (Go.ext o.1)) (R1.ext o.1) (hv _ _ _ _ _ _ _ _ _ _ _ _ hz R1 g1.no o)⟩
theorem s_neg {a : Ex} {x : Expr} {pos : Pos} (ha : PE X x (tE S a)) : PE X (.UnaryOp .USub x pos) (tE S (.neg a)) :=
  peOf (pe_un un_neg ha) fun σ H Q h => t_op1 (e := .neg a) (f := fun x => (asInt x).map fun i => .int (-i)) (fun _ _ => rfl)
    (fun u H Q ⟨A, x, z, h1, h2, k⟩ => by
      obtain ⟨i, e1, rfl⟩ := Option.map_eq_some_iff.mp h2
      cases x with
      | int j => cases e1; cases h1; exact ⟨_, rfl, k _ _ (.same (.int _))⟩
      | _ => cases e1)
    (fun aT F t r fl σ H0 H H' w x z hz R no o => by
      obtain ⟨i, e1, rfl⟩ := Option.map_eq_some_iff.mp hz
      exact vr_flat rfl o) h
theorem s_not {a : Ex} {x : Expr} {pos : Pos} (G : Good S c X) (ha : PE X x (tE S a)) : PE X (.UnaryOp .Not x pos) (tE S (.not a)) :=
  peOf (pe_notT ha) fun σ H Q h => t_op1 (e := .not a) (f := fun x => (truthD x).map fun b => .bool (!b)) (rr := fun u H Q => ∃ k, TruV X.K u H k ∧ Q (.bl (!k)) H) (fun _ _ => rfl)
    (fun u H Q ⟨A, x, z, h1, h2, k⟩ => by
      obtain ⟨b, e1, rfl⟩ := Option.map_eq_some_iff.mp h2
      rw [G.K]
      exact ⟨b, truX h1 e1, k _ _ (.same (.bl _))⟩)
    (fun aT F t r fl σ H0 H H' w x z hz R no o => by
      obtain ⟨i, e1, rfl⟩ := Option.map_eq_some_iff.mp hz
      exact vr_flat rfl o) h
theorem t_not {a : Ex} {x : Expr} {pos : Pos} (ha : PT X x (tT S a)) : PT X (.UnaryOp .Not x pos) (tT S (.not a)) :=
  ptOf (pt_not ha) fun σ H Q h => by
    obtain ⟨aT, F, fl, r, t, hst, R, h⟩ := h
    have h : Post (((ev S.M a r t).bind fun x t => lift ((truthD x).map fun b => .bool (!b)) t).bind fun x t => lift (truthD x) t) _ _ := h
    refine useT R ?_
    cases e : ev S.M a r t with
    | ok x t' =>
      rw [e] at h
      show Post (lift (truthD x) t') _ _
      have h : Post ((lift ((truthD x).map fun b => PyData.bool (!b)) t').bind fun x t => lift (truthD x) t) _ _ := h
      obtain ⟨z, hz, h⟩ := h.bind.lift
      obtain ⟨b, e1, rfl⟩ := Option.map_eq_some_iff.mp hz
      obtain ⟨b2, e2, h⟩ := h.lift
      cases e2
      rw [e1]
      exact h
    | exc c p t' => rw [e] at h; exact h
    | bad => rw [e] at h; exact h
theorem truthD_b {b : Bool} : truthD (.bool b) = some b := rfl
/-- and, or as values -/
theorem s_and {a b : Ex} {x y : Expr} {rest : List Expr} {pos : Pos} (G : Good S c X) (ha : PE X x (tE S a)) (hb : PE X (.BoolOp .And (y :: rest) pos) (tE S b)) : PE X (.BoolOp .And (x :: y :: rest) pos) (tE S (.and a b)) :=
  peOf (pe_andT ha hb) fun σ H Q h => by
    obtain ⟨aT, F, fl, r, t, hst, R, h⟩ := h
    have h : Post ((ev S.M a r t).bind fun x t => (lift (truthD x) t).bind fun c t => if c = true then ev S.M b r t else .ok x t) _ _ := h
    refine useE R (h.bind.mono (fun x t1 h v H1 F1 g1 R1 V1 => ?_) fun _ _ _ k => k)
    obtain ⟨k, e, h⟩ := h.bind.lift
    rw [G.K]
    refine ⟨k, truX V1 e, ?_⟩
    cases k with
    | true =>
      rw [if_pos rfl] at h ⊢
      exact useE R1 (h.mono (fun y t2 h u H2 F2 g2 R2 V2 => h u H2 F2 (g1.trans g2) R2 (.rp (V2.mono fun a z => z.elim .inl fun z => .inr (z.sub fun i hi => List.mem_append_right _ hi)))) fun _ _ _ k => k.go g1)
    | false =>
      rw [if_neg Bool.false_ne_true] at h ⊢
      exact h v H1 F1 g1 R1 (.rp (V1.mono fun a z => z.elim .inl fun z => .inr (z.sub fun i hi => List.mem_append_left _ hi)))
theorem s_or {a b : Ex} {x y : Expr} {rest : List Expr} {pos : Pos} (G : Good S c X) (ha : PE X x (tE S a)) (hb : PE X (.BoolOp .Or (y :: rest) pos) (tE S b)) : PE X (.BoolOp .Or (x :: y :: rest) pos) (tE S (.or a b)) :=
  peOf (pe_orT ha hb) fun σ H Q h => by
    obtain ⟨aT, F, fl, r, t, hst, R, h⟩ := h
    have h : Post ((ev S.M a r t).bind fun x t => (lift (truthD x) t).bind fun c t => if c = true then .ok x t else ev S.M b r t) _ _ := h
    refine useE R (h.bind.mono (fun x t1 h v H1 F1 g1 R1 V1 => ?_) fun _ _ _ k => k)
    obtain ⟨k, e, h⟩ := h.bind.lift
    rw [G.K]
    refine ⟨k, truX V1 e, ?_⟩
    cases k with
    | false =>
      rw [if_neg Bool.false_ne_true] at h ⊢
      exact useE R1 (h.mono (fun y t2 h u H2 F2 g2 R2 V2 => h u H2 F2 (g1.trans g2) R2 (.rp (V2.mono fun a z => z.elim .inl fun z => .inr (z.sub fun i hi => List.mem_append_right _ hi)))) fun _ _ _ k => k.go g1)
    | true =>
      rw [if_pos rfl] at h ⊢
      exact h v H1 F1 g1 R1 (.rp (V1.mono fun a z => z.elim .inl fun z => .inr (z.sub fun i hi => List.mem_append_left _ hi)))
/-- .. as tests -/
theorem t_and {a b : Ex} {x y : Expr} {rest : List Expr} {pos : Pos} (ha : PT X x (tT S a)) (hb : PW X (.BoolOp .And (y :: rest) pos) (tT S b)) : PW X (.BoolOp .And (x :: y :: rest) pos) (tT S (.and a b)) := by
  have k := pw_and (pos := pos) ha hb
  refine ⟨fun wh pins s σ H Q I h => k.run wh pins s σ H Q I ?_⟩
  obtain ⟨aT, F, fl, r, t, hst, R, h⟩ := h
  have h : Post (((ev S.M a r t).bind fun x t => (lift (truthD x) t).bind fun c t => if c = true then ev S.M b r t else .ok x t).bind fun x t => lift (truthD x) t) _ _ := h
  refine useT R ?_
  cases e : ev S.M a r t with
  | ok x t' =>
    rw [e] at h
    show Post (lift (truthD x) t') _ _
    have h : Post (((lift (truthD x) t').bind fun c t => if c = true then ev S.M b r t else .ok x t).bind fun x t => lift (truthD x) t) _ _ := h
    obtain ⟨k, e1, h⟩ := h.bind.bind.lift
    rw [e1]
    intro H1 F1 g1 R1
    cases k with
    | true =>
      rw [if_pos rfl] at h ⊢
      exact useT R1 (Post.mono (Post.unbind h) (fun b t2 h H2 F2 g2 R2 => h H2 F2 (g1.trans g2) R2) fun _ _ _ k => k.go g1)
    | false =>
      rw [if_neg Bool.false_ne_true] at h ⊢
      have h : Post (lift (truthD x) t') _ _ := h
      rw [e1] at h
      exact h H1 F1 g1 R1
  | exc c p t' => rw [e] at h; exact h
  | bad => rw [e] at h; exact h
theorem t_or {a b : Ex} {x y : Expr} {rest : List Expr} {pos : Pos} (ha : PT X x (tT S a)) (hb : PW X (.BoolOp .Or (y :: rest) pos) (tT S b)) : PW X (.BoolOp .Or (x :: y :: rest) pos) (tT S (.or a b)) := by
  have k := pw_or (pos := pos) ha hb
  refine ⟨fun wh pins s σ H Q I h => k.run wh pins s σ H Q I ?_⟩
  obtain ⟨aT, F, fl, r, t, hst, R, h⟩ := h
  have h : Post (((ev S.M a r t).bind fun x t => (lift (truthD x) t).bind fun c t => if c = true then .ok x t else ev S.M b r t).bind fun x t => lift (truthD x) t) _ _ := h
  refine useT R ?_
  cases e : ev S.M a r t with
  | ok x t' =>
    rw [e] at h
    show Post (lift (truthD x) t') _ _
    have h : Post (((lift (truthD x) t').bind fun c t => if c = true then .ok x t else ev S.M b r t).bind fun x t => lift (truthD x) t) _ _ := h
    obtain ⟨k, e1, h⟩ := h.bind.bind.lift
    rw [e1]
    intro H1 F1 g1 R1
    cases k with
    | false =>
      rw [if_neg Bool.false_ne_true] at h ⊢
      exact useT R1 (Post.mono (Post.unbind h) (fun b t2 h H2 F2 g2 R2 => h H2 F2 (g1.trans g2) R2) fun _ _ _ k => k.go g1)
    | true =>
      rw [if_pos rfl] at h ⊢
      have h : Post (lift (truthD x) t') _ _ := h
      rw [e1] at h
      exact h H1 F1 g1 R1
  | exc c p t' => rw [e] at h; exact h
  | bad => rw [e] at h; exact h
end
end Ev

set_option Elab.async false
set_option autoImplicit false
set_option linter.all false
set_option maxRecDepth 100000
set_option maxHeartbeats 1000000
/-! The rules, one a construct: places, displays, calls. -/
namespace Ev
open PySem PySem.Spec PyProof.Rows L2
def notStar : Expr → Bool
  | .Starred _ _ => false
  | _ => true
theorem star_of {e : Expr} {es : List Expr} {env : PySem.Env} (h : notStar e = true) : starEach (e :: es) env = (false, eval e env) :: starEach es env := by
  cases e <;> first | rfl | cases h
theorem star_any {pos : Pos} {env : PySem.Env} : ∀ {es : List Expr}, es.all notStar = true → (backTo pos (starEach es env)).any (·.1) = false
  | [], _ => rfl
  | e :: es, h => by
    rw [List.all_cons, Bool.and_eq_true] at h
    rw [star_of h.1]
    show (false || (backTo pos (starEach es env)).any (·.1)) = false
    rw [star_any h.2]
    rfl
theorem star_all {pos : Pos} {env : PySem.Env} : ∀ {es : List Expr}, es.all notStar = true → (backTo pos (starEach es env)).all (fun x => !x.1) = true
  | [], _ => rfl
  | e :: es, h => by
    rw [List.all_cons, Bool.and_eq_true] at h
    rw [star_of h.1]
    show (true && (backTo pos (starEach es env)).all (fun x => !x.1)) = true
    rw [star_all h.2]
    rfl
section
variable {S : Sx} {c : Ck} {X : Cx}
/-- what an operation made is given on -/
theorem fin_op {e : Ex} {aT : TpA} {F F1 : Addr → Prop} {fl : Flg} {r : Env} {t t1 : Tp} {σ : L2.St} {H H1 H' : Hp} {is : List Nat} {w : V} {z : PyData} {Q : VK} (R : Rel S.K aT F fl r t σ H) (g : Go aT F H F1 H1) (R1 : Rel S.K aT F1 fl r t1 σ H1)
    (o : ORes S.K H1 (fun a => F1 a ∨ OA fl σ is a) z w H') (hs : ∀ i ∈ is, i ∈ retE e) (k : ∀ v H' F1, Go aT F H F1 H' → Rel S.K aT F1 fl r t1 σ H' → VR S.K H H' F1 (OA fl σ (retE e)) (fresh e) v z → Q v H') : Q w H' := by
  have V : VR S.K H H' F1 (OA fl σ (retE e)) true w z := VR.of (fr := true) R1 g.no ⟨o.1, by
    rcases o.2 with o | ⟨p, e1, e2, o⟩
    · exact .inl ⟨o.1, o.2.mono fun a z => z.elim .inl fun z => .inr (z.sub hs)⟩
    · refine .inr ⟨p, e1, e2, ?_⟩
      rcases o with ⟨xs, ds, e3, e4, o⟩ | ⟨xs, ds, e3, e4, o⟩
      · exact .inl ⟨xs, ds, e3, e4, o.mono fun a z => z.elim .inl fun z => .inr (z.sub hs)⟩
      · exact .inr ⟨xs, ds, e3, e4, o.mono fun a z => z.elim .inl fun z => .inr (z.sub hs)⟩⟩ fun _ => rfl
  have R2 := R1.ext o.1
  have g2 := g.trans (Go.ext o.1)
  cases hf : fresh e with
  | true =>
    rw [hf] at k
    exact k w H' F1 g2 R2 V
  | false =>
    rw [hf] at k
    obtain ⟨F2, g3, R3, _, V3⟩ := freeze R g2 R2 V
    exact k w H' F2 g3 R3 (.rp V3)
theorem s_idx {a i : Ex} {x y : Expr} {pos : Pos} (G : Good S c X) (ha : PE X x (tE S a)) (hb : PE X y (tE S i)) (hs : PlainIx y) : PE X (.Subscript x y pos) (tE S (.idx a i)) := by
  have op := ixX (X := X) (by have := G.hu; omega)
  rw [G.K] at op
  refine peOf (pe_ix op ha hb hs) fun σ H Q h => ?_
  obtain ⟨aT, F, fl, r, t, hst, R, h⟩ := h
  have h : Post ((ev S.M a r t).bind fun x t => (ev S.M i r t).bind fun y t => lift (idxD x y) t) _ _ := h
  refine useE R (h.bind.mono (fun x t1 h v H1 F1 g1 R1 V1 => ?_) fun _ _ _ k => k)
  refine useE R1 (h.bind.mono (fun y t2 h u H2 F2 g2 R2 V2 => ?_) fun _ _ _ k => k.go g1)
  obtain ⟨z, hz, k⟩ := h.lift
  exact ⟨_, _, x, y, z, V1.go R1 g2 (fun _ h => h), V2, hz, fun w rw => k w H2 F2 (g1.trans g2) R2 (.rp rw)⟩
theorem tp_slot {aT : TpA} {F : Addr → Prop} {fl : Flg} {r : Env} {t : Tp} {σ : L2.St} {H : Hp} {i : Nat} (R : Rel S.K aT F fl r t σ H) (e : getV r i = some .tp) : ∃ a, σ[i]? = some (some (.ref a)) ∧ aT.a = some a := by
  obtain ⟨v, hv, rp⟩ := R.slot i _ e
  unfold SltR at rp
  split at rp
  · obtain ⟨a, _, _, _, z⟩ := rp
    rcases z with ⟨_, _, z, _⟩ | ⟨_, _, z, _⟩ <;> cases z
  · obtain ⟨a, e1, e2⟩ := rp
    subst e1
    exact ⟨a, hv, e2⟩
theorem scr_slot {aT : TpA} {F : Addr → Prop} {fl : Flg} {r : Env} {t : Tp} {σ : L2.St} {H : Hp} {i : Nat} {ns : List Int} (R : Rel S.K aT F fl r t σ H) (e : getV r i = some (.scr ns)) : ∃ a, σ[i]? = some (some (.ref a)) ∧ ScrR S.K F H a ns := by
  obtain ⟨v, hv, rp⟩ := R.slot i _ e
  unfold SltR at rp
  split at rp
  · obtain ⟨a, _, _, _, z⟩ := rp
    rcases z with ⟨_, _, z, _⟩ | ⟨_, _, z, _⟩ <;> cases z
  · obtain ⟨a, e1, e2⟩ := rp
    subst e1
    exact ⟨a, hv, e2⟩
theorem s_tix {i : Nat} {k : Ex} {x : Str} {y : Expr} {p pos : Pos} (G : Good S c X) (hN : c.N[i]? = some x) (hv : visB c.sc x = true) (hb : PE X y (tE S k)) (hs : PlainIx y) : PE X (.Subscript (.Name x p) y pos) (tE S (.tix i k)) := by
  obtain ⟨h1, h2, h3⟩ := visB_of hv
  have op := ix_list (X := X)
  rw [G.K] at op
  refine peOf (pe_ix op (pe_var (i := i) (by rw [G.N]; exact hN) (by rw [G.sc]; exact h1) h2 h3) hb hs) fun σ H Q h => ?_
  obtain ⟨aT, F, fl, r, t, hst, R, h⟩ := h
  have h : Post (match getV r i with | some .tp => (ev S.M k r t).bind fun y t => (match t with | some ts => lift (idxD (.list ts) y) (some ts) | none => .bad) | _ => .bad) _ _ := h
  split at h
  · rename_i e
    obtain ⟨a, hs, ha⟩ := tp_slot R e
    refine ⟨.ref a, hs, ?_⟩
    refine useE R (h.bind.mono (fun y t1 h v H1 F1 g1 R1 V1 => ?_) fun _ _ _ k => k)
    cases t1 with
    | none => exact h.elim
    | some ts =>
      have h : Post (lift (idxD (.list ts) y) (some ts)) _ _ := h
      obtain ⟨z, hz, kk⟩ := h.lift
      obtain ⟨b, xs, e1, e2, e3, e4, e5⟩ := R1.tape ts rfl
      rw [ha] at e1
      cases e1
      cases y with
      | int j =>
        obtain ⟨w, e6, e7⟩ := RpA.atI e5 hz
        cases V1
        exact ⟨a, xs, j, w, rfl, rfl, .inl (.inl e2), e6, kk w H1 F1 g1 R1 (.rp (e7.mono fun b hb => .inl (e4 b hb)))⟩
      | _ => cases hz
  · exact h.elim
/-! ### slices -/
def tP (S : Sx) (e : Ex) : TO := fun σ H Q => ∃ aT F fl r t, aT.s = S.s ∧ Rel S.K aT F fl r t σ H ∧ Post (part (isNil e) (ev S.M e r) t) (fun o t' => ∀ H' F1, Go aT F H F1 H' → Rel S.K aT F1 fl r t' σ H' → Q o H') (PX S aT F fl r σ H)
theorem poOf {e : Option Expr} {t t' : TO} (h : PO X e t) (f : ∀ σ H Q, t' σ H Q → t σ H Q) : PO X e t' := ⟨fun pins s σ H Q I q => h.run pins s σ H Q I (f σ H Q q)⟩
theorem p_none : PO X none (tP S .nil) := poOf po_none fun σ H Q h => by
  obtain ⟨aT, F, fl, r, t, hst, R, h⟩ := h
  exact h H F .refl R
theorem rp_int {K : PySem.W.Frag} {H : Hp} {A : Addr → Prop} {v : V} {x : PyData} {i : Int} (h : Rp K H A v x) (e : asInt x = some i) : v = .int i := by
  cases x with
  | int j => cases e; cases h; rfl
  | _ => cases e
theorem p_some {a : Ex} {e : Expr} (h : PE X e (tE S a)) (hn : isNil a = false) : PO X (some e) (tP S a) := poOf (po_some h) fun σ H Q h => by
  obtain ⟨aT, F, fl, r, t, hst, R, h⟩ := h
  rw [hn] at h
  have h : Post ((ev S.M a r t).bind fun x t => lift ((asInt x).map some) t) _ _ := h
  refine useE R (h.bind.mono (fun x t1 h v H1 F1 g1 R1 V1 => ?_) fun _ _ _ k => k)
  obtain ⟨z, hz, k⟩ := h.lift
  obtain ⟨i, e1, e2⟩ := Option.map_eq_some_iff.mp hz
  subst e2
  exact ⟨i, rp_int V1 e1, k H1 F1 g1 R1⟩
theorem useP {e : Ex} {aT : TpA} {F : Addr → Prop} {fl : Flg} {r : Env} {t : Tp} {σ : L2.St} {H : Hp} {Q : Option Int → Hp → Prop} (R : Rel S.K aT F fl r t σ H)
    (h : Post (part (isNil e) (ev S.M e r) t) (fun o t' => ∀ H' F1, Go aT F H F1 H' → Rel S.K aT F1 fl r t' σ H' → Q o H') (PX S aT F fl r σ H)) (hst : aT.s = S.s := by assumption) : tP S e σ H Q := ⟨aT, F, fl, r, t, hst, R, h⟩
theorem s_sli {a lo hi : Ex} {x : Expr} {l h : Option Expr} {p2 pos : Pos} (G : Good S c X) (ha : PE X x (tE S a)) (hl : PO X l (tP S lo)) (hh : PO X h (tP S hi)) : PE X (.Subscript x (.Slice l h none p2) pos) (tE S (.sli a lo hi)) := by
  have op := slX (X := X)
  rw [G.K] at op
  refine peOf (pe_slice op ha hl hh) fun σ H Q h => ?_
  obtain ⟨aT, F, fl, r, t, hst, R, h⟩ := h
  have h : Post ((ev S.M a r t).bind fun x t => (part (isNil lo) (ev S.M lo r) t).bind fun l t => (part (isNil hi) (ev S.M hi r) t).bind fun h t => lift (sliD x l h) t) _ _ := h
  refine useE R (h.bind.mono (fun x t1 h v H1 F1 g1 R1 V1 => ?_) fun _ _ _ k => k)
  refine useP R1 (h.bind.mono (fun l t2 h H2 F2 g2 R2 => ?_) fun _ _ _ k => k.go g1)
  refine useP R2 (h.bind.mono (fun u t3 h H3 F3 g3 R3 => ?_) fun _ _ _ k => k.go (g1.trans g2))
  obtain ⟨z, hz, k⟩ := h.lift
  exact ⟨_, x, z, (V1.go R1 g2 fun _ h => h).go R2 g3 (fun _ h => h), hz, fun w H' o => fin_op (e := .sli a lo hi) R ((g1.trans g2).trans g3) R3 o (fun _ h => h) k⟩
theorem rpa_ints {K : PySem.W.Frag} {H : Hp} {A : Addr → Prop} : ∀ (ns : List Int), RpA K H A (ns.map V.int) (ns.map PyData.int)
  | [] => .nil
  | n :: ns => .cons (.int n) (rpa_ints ns)
theorem s_scs {i : Nat} {lo hi : Ex} {x : Str} {p : Pos} {l h : Option Expr} {p2 pos : Pos} (G : Good S c X) (hN : c.N[i]? = some x) (hv : visB c.sc x = true) (hl : PO X l (tP S lo)) (hh : PO X h (tP S hi)) : PE X (.Subscript (.Name x p) (.Slice l h none p2) pos) (tE S (.scs i lo hi)) := by
  obtain ⟨h1, h2, h3⟩ := visB_of hv
  have op := sl_list (X := X)
  rw [G.K] at op
  refine peOf (pe_slice op (pe_var (i := i) (by rw [G.N]; exact hN) (by rw [G.sc]; exact h1) h2 h3) hl hh) fun σ H Q h => ?_
  obtain ⟨aT, F, fl, r, t, hst, R, h⟩ := h
  have h : Post (match getV r i with | some (.scr ns) => (part (isNil lo) (ev S.M lo r) t).bind fun l t => (part (isNil hi) (ev S.M hi r) t).bind fun h t => .ok (PyData.list (cut (ns.map .int) l h)) t | _ => .bad) _ _ := h
  split at h
  · rename_i ns e
    obtain ⟨a, hs, ha⟩ := scr_slot R e
    refine ⟨.ref a, hs, ?_⟩
    refine useP R (h.bind.mono (fun l t2 h H2 F2 g2 R2 => ?_) fun _ _ _ k => k)
    refine useP R2 (h.bind.mono (fun u t3 h H3 F3 g3 R3 => ?_) fun _ _ _ k => k.go g2)
    exact ⟨a, _, rfl, (ha.keep (R.keepF (g2.trans g3).nx) fun _ z => z).sq, fun p hp => fin_op (e := .scs i lo hi) R (g2.trans g3) R3 (is := []) (ORes.lst hp ((rpa_ints ns).cut l u)) (fun _ h => absurd h (by simp)) h.okk⟩
  · exact h.elim
/-! ### displays -/
def argN : Ex → Nat
  | .cons _ r => argN r + 1
  | _ => 0
theorem evs_len {g : Gm} : ∀ (e : Ex) {r : Env} {t t' : Tp} {vs : List Vl}, evs g e r t = .ok vs t' → vs.length = argN e
  | .nil, _, _, _, _, h => by cases h; rfl
  | .cons a q, r, t, t', vs, h => by
    have ih := fun {t t' vs} => evs_len (g := g) q (r := r) (t := t) (t' := t') (vs := vs)
    unfold evs at h
    split at h
    all_goals try (cases ‹Ex.cons _ _ = _›)
    all_goals first
      | (cases h; done)
      | (split at h
         · obtain ⟨xs, t1, h1, h2⟩ := bind_ok h
           cases h2
           simp [argN, ih h1]
         · cases h)
      | (obtain ⟨xs, t1, h1, h2⟩ := bind_ok h
         first
         | (cases h2; simp [argN, ih h1]; done)
         | (obtain ⟨ys, t2, h3, h4⟩ := bind_ok h2
            cases h4
            simp [argN, ih h3]))
      | cases h
  | .var _, _, _, _, _, h | .non, _, _, _, _, h | .bl _, _, _, _, _, h | .int _, _, _, _, _, h | .str _, _, _, _, _, h | .glb _, _, _, _, _, h | .tpv _, _, _, _, _, h | .scv _, _, _, _, _, h | .scs _ _ _, _, _, _, _, h | .tup _, _, _, _, _, h | .lst _, _, _, _, _, h
  | .dic _ _, _, _, _, _, h | .bin _ _ _, _, _, _, _, h | .neg _, _, _, _, _, h | .not _, _, _, _, _, h | .and _ _, _, _, _, _, h | .or _ _, _, _, _, _, h | .cmp _ _ _, _, _, _, _, h | .cm2 _ _ _ _ _, _, _, _, _, h | .isn _, _, _, _, _, h | .nsn _, _, _, _, _, h
  | .ite _ _ _, _, _, _, _, h | .idx _ _, _, _, _, _, h | .tix _ _, _, _, _, _, h | .sli _ _ _, _, _, _, _, h | .rev _, _, _, _, _, h | .call _ _, _, _, _, _, h | .bi _ _, _, _, _, _, h | .isi _ _, _, _, _, _, h | .met _ _ _, _, _, _, _, h
  | .comp _ _ _ _, _, _, _, _, h | .dcom _ _ _ _, _, _, _, _, h | .comp2 _ _ _ _ _ _, _, _, _, _, h | .rng _ _, _, _, _, _, h | .rn3 _ _ _, _, _, _, _, h | .enu _ _, _, _, _, _, h | .zip _ _, _, _, _, _, h | .vals _, _, _, _, _, h | .its _, _, _, _, _, h | .lof _, _, _, _, _, h
  | .lam _, _, _, _, _, h | .act _, _, _, _, _, h | .isx _ _, _, _, _, _, h | .plc _, _, _, _, _, h | .srt _ _ _, _, _, _, _, h | .rv2 _, _, _, _, _, h | .tof _, _, _, _, _, h | .gix _ _, _, _, _, _, h => by cases h
theorem allD_len : ∀ {vs : List Vl} {ds : List PyData}, allD vs = some ds → ds.length = vs.length
  | [], _, h => by cases h; rfl
  | .d x :: r, _, h => by
    obtain ⟨ds, e1, e2⟩ := Option.map_eq_some_iff.mp (show (allD r).map (x :: ·) = some _ from h)
    subst e2
    simp [allD_len e1]
  | .tp :: _, _, h | .scr _ :: _, _, h | .lam _ _ :: _, _, h | .exc _ _ :: _, _, h => by cases h
theorem s_tup {es : Ex} {xs : List Expr} {x1} {pos : Pos} (hn : argN es ≤ 1000) (ha : PA X xs (tA S es)) : PE X (.Tuple xs x1 pos) (tE S (.tup es)) :=
  peOf (pe_tup ha) fun σ H Q h => by
    obtain ⟨aT, F, fl, r, t, hst, R, h⟩ := h
    have h : Post ((evs S.M es r t).bind fun vs t => lift ((allD vs).map PyData.tuple) t) _ _ := h
    refine useA R ?_
    cases e : evs S.M es r t with
    | ok vs t1 =>
      rw [e] at h
      intro us H1 F1 g1 R1 V1
      have h : Post (lift ((allD vs).map PyData.tuple) t1) _ _ := h
      obtain ⟨z, hz, k⟩ := h.lift
      obtain ⟨ds, e1, e2⟩ := Option.map_eq_some_iff.mp hz
      subst e2
      have D := V1.data e1
      refine ⟨?_, fun p hp => fin_op (e := .tup es) R g1 R1 (ORes.tup hp D) (fun _ h => h) k⟩
      have h1 := D.len
      have h2 := allD_len e1
      have h3 := evs_len es e
      rw [sizeLine_eq]
      omega
    | exc c p t1 => rw [e] at h; exact h
    | bad => rw [e] at h; exact h
theorem s_lst {es : Ex} {xs : List Expr} {pos : Pos} (hn : argN es ≤ 1000) (ha : PA X xs (tA S es)) : PE X (.List xs pos) (tE S (.lst es)) :=
  peOf (pe_lst ha) fun σ H Q h => by
    obtain ⟨aT, F, fl, r, t, hst, R, h⟩ := h
    have h : Post ((evs S.M es r t).bind fun vs t => lift ((allD vs).map PyData.list) t) _ _ := h
    refine useA R ?_
    cases e : evs S.M es r t with
    | ok vs t1 =>
      rw [e] at h
      intro us H1 F1 g1 R1 V1
      have h : Post (lift ((allD vs).map PyData.list) t1) _ _ := h
      obtain ⟨z, hz, k⟩ := h.lift
      obtain ⟨ds, e1, e2⟩ := Option.map_eq_some_iff.mp hz
      subst e2
      have D := V1.data e1
      refine ⟨?_, fun p hp => fin_op (e := .lst es) R g1 R1 (ORes.lst hp D) (fun _ h => h) k⟩
      have h1 := D.len
      have h2 := allD_len e1
      have h3 := evs_len es e
      rw [sizeLine_eq]
      omega
    | exc c p t1 => rw [e] at h; exact h
    | bad => rw [e] at h; exact h
theorem s_dnew {pos : Pos} : PE X (.Dict [] [] pos) (tE S (.dic .nil .nil)) :=
  peOf pe_dnewK fun σ H Q h => by
    obtain ⟨aT, F, fl, r, t, hst, R, h⟩ := h
    have h : Post (Res.ok (PyData.dict []) t) _ _ := h
    intro p hp
    exact fin_op (e := .dic .nil .nil) (is := []) R .refl R ⟨ext_new hp, .inr ⟨p, rfl, hp, .inr ⟨[], [], rfl, upd_same, .nil⟩⟩⟩ (fun _ h => absurd h (by simp)) h.okk
/-! ### is None, tests -/
theorem rp_isN {K : PySem.W.Frag} {H : Hp} {A : Addr → Prop} {v : V} {x : PyData} (h : Rp K H A v x) : decide (v = .non) = !notNone x := by
  cases h <;> first | rfl | simp [notNone]
theorem s_isn {a : Ex} {x : Expr} {j p pos} (ha : PE X x (tE S a)) : PE X (.Compare x [.Is] [.Constant .none j p] pos) (tE S (.isn a)) ∧ PT X (.Compare x [.Is] [.Constant .none j p] pos) (tT S (.isn a)) := by
  have key : ∀ σ H Q, tE S (.isn a) σ H Q → tIsN (tE S a) σ H Q := fun σ H Q h => by
    obtain ⟨aT, F, fl, r, t, hst, R, h⟩ := h
    have h : Post ((ev S.M a r t).bind fun x t => .ok (PyData.bool (!notNone x)) t) _ _ := h
    refine useE R (h.bind.mono (fun x t1 h v H1 F1 g1 R1 V1 => ?_) fun _ _ _ k => k)
    rw [rp_isN V1]
    exact h.okk _ H1 F1 g1 R1 (vr_scal _)
  exact ⟨peOf (pe_cmp (pc_isN ha)) key, ptOf (pt_cmp (pc_isN ha)) fun σ H Q h => key _ _ _ (tT_bool (fun r t x t' e => by
    obtain ⟨_, _, _, e⟩ := bind_ok e
    cases e
    exact ⟨_, rfl⟩) h)⟩
theorem s_nsn {a : Ex} {x : Expr} {j p pos} (ha : PE X x (tE S a)) : PE X (.Compare x [.IsNot] [.Constant .none j p] pos) (tE S (.nsn a)) ∧ PT X (.Compare x [.IsNot] [.Constant .none j p] pos) (tT S (.nsn a)) := by
  have key : ∀ σ H Q, tE S (.nsn a) σ H Q → tNotN (tE S a) σ H Q := fun σ H Q h => by
    obtain ⟨aT, F, fl, r, t, hst, R, h⟩ := h
    have h : Post ((ev S.M a r t).bind fun x t => .ok (PyData.bool (notNone x)) t) _ _ := h
    refine useE R (h.bind.mono (fun x t1 h v H1 F1 g1 R1 V1 => ?_) fun _ _ _ k => k)
    rw [rp_isN V1, Bool.not_not]
    exact h.okk _ H1 F1 g1 R1 (vr_scal _)
  exact ⟨peOf (pe_cmp (pc_notN ha)) key, ptOf (pt_cmp (pc_notN ha)) fun σ H Q h => key _ _ _ (tT_bool (fun r t x t' e => by
    obtain ⟨_, _, _, e⟩ := bind_ok e
    cases e
    exact ⟨_, rfl⟩) h)⟩
theorem s_cm2 {o q : COp} {a b d : Ex} {x y z : Expr} {pos : Pos} (G : Good S c X) (ha : PE X x (tE S a)) (hb : PE X y (tE S b)) (hd : PE X z (tE S d)) (hm : lastMarks [cop o, cop q] [y, z] = false) :
    PE X (.Compare x [cop o, cop q] [y, z] pos) (tE S (.cm2 o q a b d)) ∧ PT X (.Compare x [cop o, cop q] [y, z] pos) (tT S (.cm2 o q a b d)) := by
  have op := opC (X := X) (by have := G.hu; omega) o
  have op2 := opC (X := X) (by have := G.hu; omega) q
  rw [G.K] at op op2
  have key : ∀ σ H Q, tE S (.cm2 o q a b d) σ H Q → tChain (rC S.K o) (rC S.K q) (tE S a) (tE S b) (tE S d) σ H Q := fun σ H Q h => by
    obtain ⟨aT, F, fl, r, t, hst, R, h⟩ := h
    have h : Post ((ev S.M a r t).bind fun x t => (ev S.M b r t).bind fun y t => (lift (cmpD o x y) t).bind fun k t =>
      if k = true then (ev S.M d r t).bind fun z t => lift ((cmpD q y z).map PyData.bool) t else .ok (.bool false) t) _ _ := h
    refine useE R (h.bind.mono (fun x t1 h v H1 F1 g1 R1 V1 => ?_) fun _ _ _ k => k)
    refine useE R1 (h.bind.mono (fun y t2 h u H2 F2 g2 R2 V2 => ?_) fun _ _ _ k => k.go g1)
    obtain ⟨k, hk, h⟩ := h.bind.lift
    refine ⟨_, _, x, y, k, V1.go R1 g2 fun _ h => h, V2, hk, k, rfl, ?_⟩
    cases k with
    | false =>
      rw [if_neg Bool.false_ne_true] at h ⊢
      exact h.okk _ H2 F2 (g1.trans g2) R2 (vr_scal _)
    | true =>
      rw [if_pos rfl] at h ⊢
      refine useE R2 (h.bind.mono (fun z t3 h w H3 F3 g3 R3 V3 => ?_) fun _ _ _ k => k.go (g1.trans g2))
      obtain ⟨l, hl, h⟩ := h.lift
      obtain ⟨l, e1, rfl⟩ := Option.map_eq_some_iff.mp hl
      exact ⟨_, _, y, z, l, V2.go R2 g3 fun _ h => h, V3, e1, h _ H3 F3 ((g1.trans g2).trans g3) R3 (vr_scal _)⟩
  exact ⟨peOf (pe_chain op op2 ha hb hd hm) key, ptOf (pt_chain op op2 ha hb hd hm) fun σ H Q h => key _ _ _ (tT_bool (fun r t x t' e => by
    obtain ⟨_, _, _, e⟩ := bind_ok e
    obtain ⟨_, _, _, e⟩ := bind_ok e
    obtain ⟨k, _, _, e⟩ := bind_ok e
    cases k with
    | false =>
      rw [if_neg Bool.false_ne_true] at e
      cases e
      exact ⟨_, rfl⟩
    | true =>
      rw [if_pos rfl] at e
      obtain ⟨_, _, _, e⟩ := bind_ok e
      obtain ⟨k, _, rfl⟩ := Option.map_eq_some_iff.mp (lift_ok e)
      exact ⟨k, rfl⟩) h)⟩
def plainT : Expr → Bool
  | .Name _ _ | .Call _ _ _ _ | .Subscript _ _ _ | .Tuple _ _ _ | .List _ _ | .Constant _ _ _ | .BinOp _ _ _ _ => true
  | _ => false
theorem s_test {a : Ex} {x : Expr} (G : Good S c X) (hp : plainT x = true) (ha : PE X x (tE S a)) : PT X x (tT S a) :=
  ptOf (pt_truth ha (by cases x <;> first | (intro w; rfl) | cases hp)) fun σ H Q h => by
    rw [G.K]
    exact tT_any h
theorem s_ite {k a b : Ex} {z x y : Expr} {pos : Pos} (hk : PT X z (tT S k)) (ha : PE X x (tE S a)) (hb : PE X y (tE S b)) : PE X (.IfExp z x y pos) (tE S (.ite k a b)) :=
  peOf (pe_ifExp hk ha hb) fun σ H Q h => by
    obtain ⟨aT, F, fl, r, t, hst, R, h⟩ := h
    have h : Post ((ev S.M k r t).bind fun x t => (lift (truthD x) t).bind fun k t => if k = true then ev S.M a r t else ev S.M b r t) _ _ := h
    refine useT R (Post.unbind (h.bind.mono (fun x t1 h => ?_) fun _ _ _ k => k))
    refine h.bind.mono (fun l t2 h H1 F1 g1 R1 => ?_) fun _ _ _ k => k
    cases l with
    | true =>
      rw [if_pos rfl] at h ⊢
      exact useE R1 (h.mono (fun y t2 h u H2 F2 g2 R2 V2 => h u H2 F2 (g1.trans g2) R2 (.rp (V2.mono fun a z => z.elim .inl fun z => .inr (z.sub fun i hi => List.mem_append_left _ hi)))) fun _ _ _ k => k.go g1)
    | false =>
      rw [if_neg Bool.false_ne_true] at h ⊢
      exact useE R1 (h.mono (fun y t2 h u H2 F2 g2 R2 V2 => h u H2 F2 (g1.trans g2) R2 (.rp (V2.mono fun a z => z.elim .inl fun z => .inr (z.sub fun i hi => List.mem_append_right _ hi)))) fun _ _ _ k => k.go g1)
theorem VR.sub {K : PySem.W.Frag} {H0 H H' : Hp} {F O P : Addr → Prop} {fr : Bool} {v : V} {x : PyData} (no : ∀ a, Nw H a → Nw H0 a) (h : VR K H H' F O fr v x) (s : ∀ a, O a → P a) : VR K H0 H' F P fr v x := by
  have up : ∀ b, (F b ∨ O b) → (F b ∨ P b) := fun b z => z.elim .inl fun z => .inr (s b z)
  rcases h with h | ⟨e, a, e1, e2, e3, h⟩
  · exact .inl ⟨h.1, h.2.mono up⟩
  · refine .inr ⟨e, a, e1, no a e2, e3, ?_⟩
    rcases h with ⟨xs, ds, e4, e5, h⟩ | ⟨xs, ds, e4, e5, h⟩
    · exact .inl ⟨xs, ds, e4, e5, h.mono up⟩
    · exact .inr ⟨xs, ds, e4, e5, h.mono up⟩
theorem r_ite {k a b : Ex} {z x y : Expr} {pos : Pos} (hk : PT X z (tT S k)) (ha : PE X x (tR S a)) (hb : PE X y (tR S b)) : PE X (.IfExp z x y pos) (tR S (.ite k a b)) :=
  peOf (pe_ifExp hk ha hb) fun σ H Q h => by
    obtain ⟨aT, F, fl, r, t, hst, R, h⟩ := h
    have h : Post ((ev S.M k r t).bind fun x t => (lift (truthD x) t).bind fun k t => if k = true then evR S.M a r t else evR S.M b r t) _ _ := h
    refine useT R (Post.unbind (h.bind.mono (fun x t1 h => ?_) fun _ _ _ k => k))
    refine h.bind.mono (fun l t2 h H1 F1 g1 R1 => ?_) fun _ _ _ k => k
    cases l with
    | true =>
      rw [if_pos rfl] at h ⊢
      exact ⟨aT, F1, fl, r, t2, hst, R1, h.mono (fun y t2 h u H2 F2 g2 R2 V2 => h u H2 F2 (g1.trans g2) R2 (V2.sub g1.no fun a z => z.sub fun i hi => List.mem_append_left _ hi)) fun _ _ _ k => k.go g1⟩
    | false =>
      rw [if_neg Bool.false_ne_true] at h ⊢
      exact ⟨aT, F1, fl, r, t2, hst, R1, h.mono (fun y t2 h u H2 F2 g2 R2 V2 => h u H2 F2 (g1.trans g2) R2 (V2.sub g1.no fun a z => z.sub fun i hi => List.mem_append_right _ hi)) fun _ _ _ k => k.go g1⟩
def rootless : Ex → Bool
  | .call _ _ | .ite _ _ _ => false
  | _ => true
theorem r_of {e : Ex} {x : Expr} (hr : rootless e = true) (h : PE X x (tE S e)) : PE X x (tR S e) := peOf h fun σ H Q h => by
  obtain ⟨aT, F, fl, r, t, hst, R, h⟩ := h
  have e1 : evR S.M e r t = (ev S.M e r t).bind fun x t => .ok (x, fresh e) t := by
    unfold evR
    cases e <;> first | rfl | cases hr
  rw [e1] at h
  exact ⟨aT, F, fl, r, t, hst, R, h.bind⟩
/-- a call's return, as its caller sees it -/
theorem back {K : PySem.W.Frag} {aT : TpA} {F1 F3 : Addr → Prop} {fl : Flg} {r : Env} {t t' : Tp} {σ : L2.St} {H1 H' : Hp} {is : List Nat} (R : Rel K aT F1 fl r t σ H1) (g : Go aT (fun a => F1 a ∨ OA fl σ is a) H1 F3 H') (T3 : TR K aT F3 t' H') :
    Go aT F1 H1 (fun a => F3 a ∧ ¬ OA fl σ is a) H' ∧ Rel K aT (fun a => F3 a ∧ ¬ OA fl σ is a) fl r t' σ H' := by
  have nO : ∀ a, F1 a → ¬ OA fl σ is a := fun a ha ⟨i, _, hf, hs⟩ => by
    obtain ⟨v, x, _, hx, b, eb, nb, _⟩ := R.ownR hf
    rw [hs] at hx
    cases hx
    cases eb
    exact nb ha
  have sub : ∀ a, F1 a → F3 a ∧ ¬ OA fl σ is a := fun a ha => ⟨g.gr a (.inl ha), nO a ha⟩
  have k := R.keepF g.nx
  refine ⟨⟨g.nx, sub, fun a ha => ?_, g.no⟩, ⟨⟨fun a ha => T3.dom a ha.1, fun ts ht => ?_, T3.none, T3.tabs⟩, R.len, fun i v hv => ?_, R.own, R.dis⟩⟩
  · rcases g.nw a ha.1 with h | h
    · rcases h with h | h
      · exact .inl h
      · exact absurd h ha.2
    · exact .inr h
  · obtain ⟨a, xs, e1, e2, e3, e4, e5⟩ := T3.tape ts ht
    refine ⟨a, xs, e1, e2, fun z => e3 z.1, fun b hb => ?_, e5⟩
    cases hT : t with
    | none => rw [R.none hT] at e1; cases e1
    | some ts0 =>
      obtain ⟨_, _, _, _, _, q, _⟩ := R.tape ts0 hT
      exact sub b (q b hb)
  · obtain ⟨x, hx, q⟩ := R.slot i v hv
    refine ⟨x, hx, ?_⟩
    unfold SltR at q ⊢
    by_cases hf : fl i = true
    · rw [if_pos hf] at q ⊢
      obtain ⟨a, e, nF, nT, q⟩ := q
      have hob : ∃ o, H1 a = some o ∧ ∀ ps, o ≠ .tbl ps := by
        rcases q with ⟨xs, ds, _, e, _⟩ | ⟨xs, ds, _, e, _⟩ <;> exact ⟨_, e, fun _ z => by cases z⟩
      obtain ⟨o, ho, hto⟩ := hob
      refine ⟨a, e, fun z => ?_, nT, ?_⟩
      · rcases g.nw a z.1 with h | h
        · rcases h with h | h
          · exact nF h
          · exact z.2 h
        · exact h.no ho hto
      · have st := g.nx.k a o ho nT hto
        rcases q with ⟨xs, ds, e1, e2, e3⟩ | ⟨kvs, ds, e1, e2, e3⟩
        · rw [ho] at e2
          cases e2
          exact .inl ⟨xs, ds, e1, st, e3.keep k sub⟩
        · rw [ho] at e2
          cases e2
          exact .inr ⟨kvs, ds, e1, st, e3.keep k sub⟩
    · rw [if_neg hf] at q ⊢
      cases v with
      | d y => exact Rp.keep q k sub
      | scr ns =>
        obtain ⟨a, e1, e2⟩ := q
        exact ⟨a, e1, e2.keep k sub⟩
      | lam b0 q0 =>
        obtain ⟨lm, l1, l2, l3, l4, l5⟩ := q
        exact ⟨lm, l1, l2, l3, k.e _ _ l4, l5.keep k sub⟩
      | _ => exact q
theorem back_v {K : PySem.W.Frag} {F3 O : Addr → Prop} {H1 H' : Hp} {fr : Bool} {v : V} {x : PyData} (h : VR K H1 H' F3 (fun _ => False) fr v x) : VR K H1 H' (fun a => F3 a ∧ ¬ O a) O fr v x := by
  have up : ∀ b, (F3 b ∨ False) → ((F3 b ∧ ¬ O b) ∨ O b) := fun b z => by
    rcases z with z | z
    · by_cases ho : O b
      · exact .inr ho
      · exact .inl ⟨z, ho⟩
    · exact z.elim
  rcases h with h | ⟨e, a, e1, e2, e3, h⟩
  · exact .inl ⟨h.1, h.2.mono up⟩
  · refine .inr ⟨e, a, e1, e2, fun z => e3 z.1, ?_⟩
    rcases h with ⟨xs, ds, e4, e5, h⟩ | ⟨xs, ds, e4, e5, h⟩
    · exact .inl ⟨xs, ds, e4, e5, h.mono up⟩
    · exact .inr ⟨xs, ds, e4, e5, h.mono up⟩
theorem r_call {f : Nat} {x : Str} {ps : List Str} {gd : Bool} {es : Ex} {args : List Expr} {p pos : Pos} (G : Good S c X) (hc : c.calm = true) (hsu : c.sui = false) (hlm : c.lmn = none) (hf : S.T.fns[f]? = some (x, ps, gd)) (hne : x ≠ "") (hgd : gd = true → c.gd = true) (hg : glB c.sc x = true) (hst : args.all notStar = true) (hnil : args = [] → es = .nil) (ha : PA X args (tA S es)) :
    PE X (.Call (.Name x p) args [] pos) (tR S (.call f es)) := by
  obtain ⟨h1, h2⟩ := glB_of hg
  have hgl : Gl X x := by show X.env.kindOf x = _; unfold Env.kindOf; rw [G.sc]; exact h1
  obtain ⟨fa, hm, hk, run⟩ := (G.cl _ f x ps gd (Nat.le_refl _) hf hne).ex
  have eS : S.lev S.lv = S := by show { S with M := S.gm S.lv } = S; rw [← G.mm]
  have eb : S.s = S.s.base := by
    have h1 := G.xn hsu
    have h2 := G.ln hc hlm
    cases hs : S.s with
    | mk tb xc lm =>
      rw [hs] at h1 h2
      cases h1
      cases h2
      rfl
  rw [eS] at run hm hk
  rw [← G.K] at hk
  have rm := G.rm hc
  have gg : gd = true → X.A.guards = some [] := fun h => G.gd (hgd h)
  have key : ∀ σ H Q, tR S (.call f es) σ H Q → tA S es σ H fun vs H1 => spC S f vs H1 Q (WE S.W σ) := fun σ H Q h => by
    obtain ⟨aT, F, fl, r, t, hst, R, h⟩ := h
    have h : Post ((evs S.M es r t).bind fun vs t => S.M.cl f vs t) _ _ := h
    refine useA R (h.bind.mono (fun vs t1 h us H1 F1 g1 R1 V1 => ?_) fun _ _ _ k => k)
    refine ⟨aT, fun a => F1 a ∨ OA fl σ (retE es) a, t1, vs, hst.trans eb, ?_, V1, h.mono (fun x t2 h v H' F3 g3 T3 V3 => ?_) fun c p t2 h cls d H' F3 g3 T3 e => ?_⟩
    · refine ⟨fun a ha => ?_, fun ts ht => ?_, R1.none, R1.tabs⟩
      · rcases ha with ha | ⟨i, _, hf, hs⟩
        · exact R1.dom a ha
        · obtain ⟨v, x, _, hx, b, eb, _, _, q⟩ := R1.ownR hf
          rw [hs] at hx
          cases hx
          cases eb
          rcases q with ⟨xs, ds, _, e, _⟩ | ⟨xs, ds, _, e, _⟩ <;> exact ⟨_, e, True.intro⟩
      · obtain ⟨a, xs, e1, e2, e3, e4, e5⟩ := R1.tape ts ht
        refine ⟨a, xs, e1, e2, fun z => ?_, fun b hb => .inl (e4 b hb), e5⟩
        rcases z with z | ⟨i, _, hf, hs⟩
        · exact e3 z
        · obtain ⟨v, x, _, hx, b, eb, _, nT, _⟩ := R1.ownR hf
          rw [hs] at hx
          cases hx
          cases eb
          exact nT e1
    · obtain ⟨g4, R4⟩ := back R1 g3 T3
      exact h v H' _ (g1.trans g4) R4 ((back_v (O := OA fl σ (retE es)) V3).sub g1.no fun a z => z)
    · obtain ⟨g4, R4⟩ := back R1 g3 T3
      exact h cls d H' _ (g1.trans g4) R4 e
  refine ⟨fun pins s σ H Q I h => ?_⟩
  have h := key σ H Q h
  refine wpAny_Call_Name_kw (ld_glob I hgl (by rw [G.mg]; exact hm) ?_ h2)
  cases args with
  | nil =>
    rw [hnil rfl] at h
    obtain ⟨aT, F, fl, r, t, hst, R, h⟩ := h
    have h := h.okk [] H F .refl R .nil
    exact PySem.W.callWith_K0 I.kIn hk (run X S.W rfl rfl G.K G.mg rfl rm gg G.tk pins s σ H [] [] Q I .nil h)
  | cons e es' =>
    rw [List.all_cons, Bool.and_eq_true] at hst
    refine PySem.W.callWith_K (h₀ := X.base) I.ok.mod.kin hk (thn (ha.run pos pins s σ H _ I h) fun us s1 ⟨vs, H1, I1, r, q⟩ => ⟨I1.kIn, ?_⟩) (star_of hst.1) (star_any hst.2)
    exact run X S.W rfl rfl G.K G.mg rfl rm gg G.tk pins s1 σ H1 us vs Q I1 r q
end
end Ev

set_option Elab.async false
set_option autoImplicit false
set_option linter.all false
set_option maxRecDepth 100000
set_option maxHeartbeats 1000000
/-! The rules, one a construct: calls of built-ins, methods. -/
namespace Ev
open PySem PySem.Spec PyProof.Rows L2
def keepB : Bi → Bool
  | .min | .max | .sorted | .list | .tuple | .sum => true
  | _ => false
theorem biD_flat {b : Bi} {ds : List PyData} {z : PyData} (hb : keepB b = false) (h : biD b ds = some z) : flatD z = true := by
  unfold biD at h
  split at h
  all_goals first
    | (cases hb; done)
    | (cases h; done)
    | (cases h; rfl)
    | (split at h
       · first
         | (cases h; rfl)
         | (obtain ⟨_, _, rfl⟩ := Option.map_eq_some_iff.mp h; rfl)
       · cases h)
    | (obtain ⟨_, _, rfl⟩ := Option.map_eq_some_iff.mp h; rfl)
theorem retE_bi {b : Bi} {es : Ex} (h : keepB b = true) : retE (.bi b es) = retE es := by
  cases b <;> first | rfl | cases h
section
variable {S : Sx} {c : Ck} {X : Cx}
theorem gl_of {x : Str} (G : Good S c X) (hg : glB c.sc x = true) : Gl X x := by
  show X.env.kindOf x = _
  unfold Env.kindOf
  rw [G.sc]
  exact (glB_of hg).1
theorem s_bi {b : Bi} {es : Ex} {e : Expr} {args : List Expr} {p pos : Pos} (G : Good S c X) (hc : c.calm = true) (hr : b = .repr → c.gd = true) (hg : glB c.sc (bname b) = true) (hst : (e :: args).all notStar = true) (ha : PA X (e :: args) (tA S es)) :
    PE X (.Call (.Name (bname b) p) (e :: args) [] pos) (tE S (.bi b es)) := by
  rw [List.all_cons, Bool.and_eq_true] at hst
  have op := opBi (X := X) (by have := G.hu; omega) (G.calm hc) b (fun e => G.gd (hr e))
  rw [G.K] at op
  have hgl := gl_of G hg
  have hm : X.mg (bname b) = none := by rw [G.mg]; exact G.fr _ (by cases b <;> simp [bname, blts])
  have key : ∀ σ H Q, tE S (.bi b es) σ H Q → tCB (rBi S.K b) (tA S es) σ H Q := fun σ H Q h => by
    obtain ⟨aT, F, fl, r, t, hst, R, h⟩ := h
    have h : Post ((evs S.M es r t).bind fun vs t => lift ((allD vs).bind (biD b)) t) _ _ := h
    refine useA R (h.bind.mono (fun vs t1 h us H1 F1 g1 R1 V1 => ?_) fun _ _ _ k => k)
    obtain ⟨z, hz, k⟩ := h.lift
    obtain ⟨ds, e1, e2⟩ := Option.bind_eq_some_iff.mp hz
    refine ⟨_, ds, z, V1.data e1, e2, fun w H' o => ?_⟩
    cases hk : keepB b with
    | true => exact fin_op (e := .bi b es) R g1 R1 o (fun i hi => by rw [retE_bi hk]; exact hi) k
    | false => exact k w H' F1 (g1.trans (Go.ext o.1)) (R1.ext o.1) (vr_flat (biD_flat hk e2) o)
  refine peOf ?_ key
  cases b with
  | int => exact pe_callTy op hgl hm rfl ha (he := star_of hst.1) (hpl := star_any hst.2)
  | bool => exact pe_callTy op hgl hm rfl ha (he := star_of hst.1) (hpl := star_any hst.2)
  | list => exact pe_callTy op hgl hm rfl ha (he := star_of hst.1) (hpl := star_any hst.2)
  | tuple => exact pe_callTy op hgl hm rfl ha (he := star_of hst.1) (hpl := star_any hst.2)
  | str => exact pe_callTy op hgl hm rfl ha (he := star_of hst.1) (hpl := star_any hst.2)
  | _ => exact pe_callB op hgl hm rfl ha (he := star_of hst.1) (hpl := star_any hst.2)
/-! ### isinstance -/
def tyN : Ty → Str
  | .int => "int" | .bool => "bool" | .str => "str" | .tuple => "tuple" | .list => "list" | .dict => "dict"
def tyS : Ty → String
  | .int => "int" | .bool => "bool" | .str => "str" | .tuple => "tuple" | .list => "list" | .dict => "dict"
def tyD : PyData → String
  | .none => "NoneType" | .bool _ => "bool" | .int _ => "int" | .str _ => "str" | .list _ => "list" | .tuple _ => "tuple" | .dict _ => "dict"
theorem rp_ty {K : PySem.W.Frag} {H : Hp} {A : Addr → Prop} {u : V} {x : PyData} (h : Rp K H A u x) : TyX K H u (.type (tyD x)) := by
  cases h with
  | non => exact .base .non
  | bl b => exact .base (.bl b)
  | int i => exact .base (.int i)
  | str z => exact .base (.str z)
  | lst h1 h2 => exact .base (.lst h1.1)
  | tup h1 h2 =>
    rcases h1 with h | h
    · rcases h with h | ⟨o, h⟩
      · exact .base (.tup h)
      · exact .fTuple h
    · obtain ⟨o, its, n, h1, h2, _⟩ := h
      exact .kTuple h1 h2
  | dic h1 h2 h3 => exact .base (.dK h1)
theorem kit_d {K : PySem.W.Frag} (x : PyData) (t : Ty) : PySem.W.kitOne K (.type (tyD x)) (.type (tyS t)) = some (isTy x t) := by
  cases x <;> cases t <;> exact kit_ty (by simp only [tyD, tyS, isTy]; decide +kernel)
theorem kit_any {K : PySem.W.Frag} (x : PyData) : ∀ ts : List Ty, PySem.W.kitAny K (.type (tyD x)) (ts.map fun t => .type (tyS t)) = some (ts.any (isTy x))
  | [] => rfl
  | t :: ts => by
    rw [List.map_cons, List.any_cons]
    refine kitAny_cons (kit_d x t) (fun e => ?_) (fun e => ?_)
    · rw [e, Bool.false_or]
      exact kit_any x ts
    · rw [e, Bool.true_or]
theorem s_tyname {t : Ty} {p : Pos} (G : Good S c X) (hg : glB c.sc (tyN t) = true) : PE X (.Name (tyN t) p) (tC (.ty (tyS t))) := by
  have hm : X.mg (tyN t) = none := by rw [G.mg]; exact G.fr _ (by cases t <;> simp [tyN, blts])
  cases t <;> exact pe_bltn (gl_of G hg) hm rfl rfl
theorem s_isi1 {a : Ex} {t : Ty} {x : Expr} {p p2 pos : Pos} (G : Good S c X) (hg : glB c.sc "isinstance" = true) (ht : glB c.sc (tyN t) = true) (hst : notStar x = true) (ha : PE X x (tE S a)) :
    PE X (.Call (.Name "isinstance" p) [x, .Name (tyN t) p2] [] pos) (tE S (.isi a [t])) := by
  have op := call_isi (X := X)
  rw [G.K] at op
  have hm : X.mg "isinstance" = none := by rw [G.mg]; exact G.fr _ (by simp [blts])
  refine peOf (pe_callB op (gl_of G hg) hm rfl (pa_cons ha (pa_cons (s_tyname (p := p2) G ht) pa_nil (star_of rfl)) (star_of hst)) (he := star_of hst)) fun σ H Q h => ?_
  obtain ⟨aT, F, fl, r, t', hst, R, h⟩ := h
  have h : Post ((ev S.M a r t').bind fun x t' => .ok (PyData.bool ([t].any (isTy x))) t') _ _ := h
  refine useE R (h.bind.mono (fun x t1 h v H1 F1 g1 R1 V1 => ?_) fun _ _ _ k => k)
  refine ⟨v, _, _, _, isTy x t, rfl, .ty _, rp_ty V1, kit_d x t, ?_⟩
  have h := h.okk
  simp only [List.any_cons, List.any_nil, Bool.or_false] at h
  exact h _ H1 F1 g1 R1 (vr_scal _)
def tyNs : List Ty → List Expr → Bool
  | [], [] => true
  | t :: ts, .Name x _ :: es => decide (x = tyN t) && tyNs ts es
  | _, _ => false
theorem pa_tys (G : Good S c X) : ∀ {ts : List Ty} {es : List Expr}, tyNs ts es = true → ts.all (fun t => glB c.sc (tyN t)) = true → PA X es fun _ H Q => Q (ts.map fun t => .ty (tyS t)) H
  | [], [], _, _ => pa_nil
  | t :: ts, .Name x p :: es, h, hg => by
    have h : (decide (x = tyN t) && tyNs ts es) = true := h
    rw [Bool.and_eq_true] at h
    rw [List.all_cons, Bool.and_eq_true] at hg
    have e := of_decide_eq_true h.1
    subst e
    exact pa_cons (s_tyname G hg.1) (pa_tys G h.2 hg.2) (star_of rfl)
theorem s_isiT {a : Ex} {ts : List Ty} {x : Expr} {es : List Expr} {x1} {p p2 pos : Pos} (G : Good S c X) (hg : glB c.sc "isinstance" = true) (ht : tyNs ts es = true) (hl : ts.length ≤ 100) (hts : ts.all (fun t => glB c.sc (tyN t)) = true) (hst : notStar x = true) (ha : PE X x (tE S a)) :
    PE X (.Call (.Name "isinstance" p) [x, .Tuple es x1 p2] [] pos) (tE S (.isi a ts)) := by
  have op := call_isiT (X := X)
  rw [G.K] at op
  have hm : X.mg "isinstance" = none := by rw [G.mg]; exact G.fr _ (by simp [blts])
  refine peOf (pe_callB op (gl_of G hg) hm rfl (pa_cons ha (pa_cons (pe_tup (pa_tys G ht hts)) pa_nil (star_of rfl)) (star_of hst)) (he := star_of hst)) fun σ H Q h => ?_
  obtain ⟨aT, F, fl, r, t', hst, R, h⟩ := h
  have h : Post ((ev S.M a r t').bind fun x t' => .ok (PyData.bool (ts.any (isTy x))) t') _ _ := h
  refine useE R (h.bind.mono (fun x t1 h v H1 F1 g1 R1 V1 => ?_) fun _ _ _ k => k)
  refine ⟨by rw [List.length_map, sizeLine_eq]; omega, fun q hq => ?_⟩
  have ex := ext_new (o := .tup (ts.map fun t => V.ty (tyS t))) hq
  have V2 := V1.keep (keep_all ex) fun _ h => h
  have hp : ∀ ts : List Ty, Paired ClsV (ts.map fun t => V.ty (tyS t)) (ts.map fun t => Value.type (tyS t)) := fun ts => by
    induction ts with
    | nil => exact .nil
    | cons t ts ih => exact .cons (.ty _) ih
  exact ⟨v, q, _, _, _, ts.any (isTy x), rfl, upd_same, hp ts, rp_ty V2, kit_any x ts, h.okk _ _ F1 (g1.trans (Go.ext ex)) (R1.ext ex) (vr_scal _)⟩
/-! ### methods -/
theorem place_at {x : PyData} : ∀ {xs : List PyData} {k n : Nat}, place x k xs = some n → ∃ j z, n = k + j ∧ xs[j]? = some z ∧ PyData.eqv z x = true ∧ ∀ (m : Nat) (z' : PyData), m < j → xs[m]? = some z' → PyData.eqv z' x = false
  | [], _, _, h => by cases h
  | y :: r, k, n, h => by
    unfold place at h
    split at h
    · rename_i e
      cases h
      exact ⟨0, y, rfl, rfl, e, fun m z' hm => absurd hm (Nat.not_lt_zero m)⟩
    · rename_i e
      obtain ⟨j, z, e1, e2, e3, e4⟩ := place_at h
      refine ⟨j + 1, z, by omega, by simpa using e2, e3, fun m z' hm hz => ?_⟩
      cases m with
      | zero =>
        simp at hz
        subst hz
        exact Bool.eq_false_iff.mpr e
      | succ m => exact e4 m z' (by omega) (by simpa using hz)
def rCntV (K : PySem.W.Frag) : V → List V → Hp → VK → Prop := fun x xs H Q => ∃ (p : Addr) (ys : List V) (y : V), x = .ref p ∧ xs = [y] ∧ SqL K H p ys ∧ flatV y = true ∧ ys.all flatV = true ∧ Q (.int (ys.countP fun z => eqV z y : Nat)) H
theorem eqU_count {y : V} : ∀ {ys : List V} {us : List Value}, Vals ys us → ys.all flatV = true → us.countP (eqU y) = ys.countP fun z => eqV z y
  | _, _, .nil, _ => rfl
  | z :: ys, u :: us, .cons r t, f => by
    rw [List.all_cons, Bool.and_eq_true] at f
    rw [List.countP_cons, List.countP_cons, eqU_count t f.2, eqU_of r f.1]
theorem mt_countV : MtR X "list.count" (rCntV X.K) := by
  intro pins s σ H x xs v us Q I rx rxs h
  obtain ⟨p, ys, y, rfl, rfl, hs, fy, fys, q⟩ := h
  cases rx
  obtain ⟨u, rfl, ru⟩ := rxs.one
  obtain ⟨its, rv, ⟨⟨cls, dd, data, sl⟩, n, ho, hc, hdn, hd⟩, hlen⟩ := I.list hs
  simp only at hc hd
  subst hc hd
  refine call_meets PySem.F.slot_list_count ⟨_, ho, rfl⟩ PySem.F.entry_list_count (PySem.F.args_list_count_2 _ _)
    (SeqAt.list_countAt p its.toArray n dd sl u (eqU y)) ⟨ho, fun u' hu' => mem_eqAt ru fy rv fys u' (by simpa using hu'), ?_⟩
  have ec : its.toArray.toList.countP (eqU y) = ys.countP fun z => eqV z y := eqU_count rv fys
  refine ⟨.int (ys.countP fun z => eqV z y : Nat), H, I.tok _, ⟨s.toks, ?_⟩, q⟩
  show Value.int ((its.toArray.toList.countP (eqU y) : Nat) : Int) s.toks = Value.int _ s.toks
  rw [ec]
theorem count_rp {K : PySem.W.Frag} {H : Hp} {A B : Addr → Prop} {u : V} {x : PyData} (hx : Rp K H B u x) (fx : flatD x = true) : ∀ {us : List V} {ds : List PyData}, RpA K H A us ds → ds.all flatD = true → (us.countP fun z => eqV z u) = ds.countP fun y => PyData.eqv y x
  | _, _, .nil, _ => rfl
  | v :: us, d :: ds, .cons r t, f => by
    rw [List.all_cons, Bool.and_eq_true] at f
    rw [List.countP_cons, List.countP_cons, count_rp hx fx t f.2, eqV_rp r hx f.1 fx]
/-- l.index(x), l a list -/
def rMe (K : PySem.W.Frag) (m : Me) : V → List V → Hp → VK → Prop := fun u vs H Q => ∃ A B ds x v n, Rp K H A u (.list ds) ∧ vs = [v] ∧ Rp K H B v x ∧ metD m ds [x] = some (.int n) ∧ Q (.int n) H
theorem mt_idx (hu : X.A.units + 80 < cLine) : MtR X "list.index" (rMe X.K .index) := by
  intro pins s σ H u vs uu us Q I rx rs h
  obtain ⟨A, B, ds, x, v, n, hl, rfl, hx, hm, q⟩ := h
  simp only [metD] at hm
  split at hm
  · rename_i hf
    obtain ⟨k, e1, e2⟩ := Option.map_eq_some_iff.mp hm
    cases e2
    obtain ⟨j, z, e3, e4, e5, e6⟩ := place_at e1
    rw [Nat.zero_add] at e3
    subst e3
    cases hl with
    | lst h1 h2 =>
      rename_i a us'
      by_cases hf2 : (flatD x && ds.all flatD) = true
      · rw [Bool.and_eq_true] at hf2
        obtain ⟨w, e7, e8⟩ := h2.get e4
        have fz : ∀ {j : Nat} {z : PyData}, ds[j]? = some z → flatD z = true := fun h => List.all_eq_true.mp hf2.2 _ (List.mem_of_getElem? h)
        refine mt_index pins s σ H _ _ uu us Q I rx rs ⟨a, _, v, k, w, rfl, rfl, h1.sq, flat_rp hx hf2.1, flat_all h2 hf2.2, e7, ?_, fun m w' hm hw => ?_, q⟩
        · rw [eqV_rp e8 hx (fz e4) hf2.1]
          exact e5
        · obtain ⟨z', e9, e10⟩ := h2.get' hw
          rw [eqV_rp e10 hx (fz e9) hf2.1]
          exact e6 m z' hm e9
      · rw [Bool.eq_false_iff.mpr hf2, Bool.false_or, Bool.and_eq_true] at hf
        exact mt_indexD (by omega) pins s σ H _ _ uu us Q I rx rs ⟨a, v, x, ds, k, z, rfl, rfl, (Rp.lst h1 h2).dp (noDict_shaped hf.2), hx.dp (noDict_shaped hf.1), hf.2, hf.1, e4, e5, e6, q⟩
  · cases hm
theorem mt_cnt : MtR X "list.count" (rMe X.K .count) := by
  intro pins s σ H u vs uu us Q I rx rs h
  obtain ⟨A, B, ds, x, v, n, hl, rfl, hx, hm, q⟩ := h
  simp only [metD] at hm
  split at hm
  · rename_i hf
    rw [Bool.and_eq_true] at hf
    cases hm
    cases hl with
    | lst h1 h2 =>
      rename_i a us'
      refine mt_countV pins s σ H _ _ uu us Q I rx rs ⟨a, _, v, rfl, rfl, h1.sq, flat_rp hx hf.1, flat_all h2 hf.2, ?_⟩
      rw [count_rp hx hf.1 h2 hf.2]
      exact q
  · cases hm
def mname : Me → Str
  | .index => "index"
  | .count => "count"
theorem few1 {x : Expr} {cpos : Pos} {env : PySem.Env} (h : notStar x = true) : ((backTo cpos (starEach [x] env)).all (fun x => !x.1) && (backToKw cpos (keywordEach [] env)).all (fun x => x.1.isSome)
      && decide ([x].length + ([] : List Keyword).length + (if ([] : List Keyword).isEmpty then 0 else 1) < 30)) = true := by
  rw [star_all (es := [x]) (by rw [List.all_cons, h]; rfl)]
  rfl
theorem metD_int {m : Me} {ds xs : List PyData} {z : PyData} (h : metD m ds xs = some z) : ∃ y n, xs = [y] ∧ z = .int n := by
  unfold metD at h
  split at h
  · split at h
    · obtain ⟨n, _, rfl⟩ := Option.map_eq_some_iff.mp h
      exact ⟨_, _, rfl, rfl⟩
    · cases h
  · split at h
    · cases h
      exact ⟨_, _, rfl, rfl⟩
    · cases h
  · cases h
theorem s_met {m : Me} {a b : Ex} {o x : Expr} {apos cpos : Pos} (G : Good S c X) (ha : PE X o (tE S a)) (hb : PA X [x] (tA S b)) (hst : notStar x = true) (hbase : attributeBase o (mname m) X.env (eval o X.env) = eval o X.env) (hline : (apos.endLine == cpos.line) = true) :
    PE X (.Call (.Attribute o (mname m) apos) [x] [] cpos) (tE S (.met m a b)) := by
  have key : ∀ σ H Q, tE S (.met m a b) σ H Q → tBM X.K "list" (rMe X.K m) (tE S a) (tA S b) σ H Q := fun σ H Q h => by
    obtain ⟨aT, F, fl, r, t, hst, R, h⟩ := h
    have h : Post ((ev S.M a r t).bind fun x t => (lift (lstD x) t).bind fun xs t => (evs S.M b r t).bind fun vs t => lift ((allD vs).bind (metD m xs)) t) _ _ := h
    rw [G.K]
    refine useE R (h.bind.mono (fun x t1 h v H1 F1 g1 R1 V1 => ?_) fun _ _ _ k => k)
    obtain ⟨ds, e0, hh⟩ := h.bind.lift
    have e0 : x = .list ds := by
      cases x with
      | list xs => cases e0; rfl
      | _ => cases e0
    subst e0
    refine ⟨?_, ?_⟩
    · cases V1 with
      | lst h1 h2 => exact .inl ⟨rfl, _, h1.sq⟩
    refine useA R1 (hh.bind.mono (fun vs t2 h us H2 F2 g2 R2 V2 => ?_) fun _ _ _ k => k.go g1)
    obtain ⟨z, hz, k⟩ := h.lift
    obtain ⟨xs, e1, e2⟩ := Option.bind_eq_some_iff.mp hz
    have D := V2.data e1
    obtain ⟨y, n, rfl, rfl⟩ := metD_int e2
    obtain ⟨u, rfl, ru⟩ := rpa1 D
    exact ⟨_, _, ds, y, u, n, V1.go R1 g2 fun _ h => h, rfl, ru, e2, k _ H2 F2 (g1.trans g2) R2 (.rp (.int n))⟩
  refine peOf ?_ key
  cases m with
  | index => exact pe_bm (X := X) (T := "list") (id := "list.index") PySem.F.plainAttrs_list PySem.F.slot_list_index PySem.F.type_list_index (mt_idx (by have := G.hu; omega)) ha hb hbase (few1 hst) hline (star_of hst) rfl
  | count => exact pe_bm (X := X) (T := "list") (id := "list.count") PySem.F.plainAttrs_list PySem.F.slot_list_count PySem.F.type_list_count mt_cnt ha hb hbase (few1 hst) hline (star_of hst) rfl
theorem strs_rp {K : PySem.W.Frag} {H : Hp} {A : Addr → Prop} : ∀ {us : List V} {ds : List PyData}, RpA K H A us ds → ds.all isStrD = true → ∃ ys : List Str, us = ys.map V.str ∧ ds = ys.map PyData.str
  | _, _, .nil, _ => ⟨[], rfl, rfl⟩
  | v :: us, d :: ds, .cons r t, f => by
    rw [List.all_cons, Bool.and_eq_true] at f
    obtain ⟨ys, e1, e2⟩ := strs_rp t f.2
    cases d with
    | str y =>
      cases r
      exact ⟨y :: ys, by rw [e1]; rfl, by rw [e2]; rfl⟩
    | _ => cases f.1
theorem s_gix {k : Nat} {a : Ex} {y : Str} {xs : List PyData} {x : Expr} {p apos cpos : Pos} (G : Good S c X) (hk : S.T.gls[k]? = some (y, .tuple xs)) (hg : glB c.sc y = true) (ha : PE X x (tE S a)) (hst : notStar x = true) (hline : (apos.endLine == cpos.line) = true)
    (hbase : attributeBase (.Name y p) "index" X.env (eval (.Name y p) X.env) = eval (.Name y p) X.env) :
    PE X (.Call (.Attribute (.Name y p) "index" apos) [x] [] cpos) (tE S (.gix k a)) := by
  obtain ⟨g1, _, _, _, _, rp⟩ := G.gl k y _ hk
  obtain ⟨q, o, vs, hm, ho, hc, hd, hq⟩ := G.gt k y xs hk
  have pe : PE X (.Name y p) (tC (.ref q)) := pe_glob (gl_of G hg) (by rw [G.mg]; exact hm) rfl (glB_of hg).2
  refine peOf (pe_bm (X := X) (T := "tuple") (id := "tuple.index") PySem.F.plainAttrs_tuple PySem.F.slot_tuple_index PySem.F.type_tuple_index mt_tup_index pe (pa_cons ha pa_nil (star_of hst)) hbase (few1 hst) hline (star_of hst) rfl) fun σ H Q h => ?_
  refine ⟨.inr (.inl ⟨rfl, o, by rw [G.K]; exact ho, hc, hd⟩), ?_⟩
  obtain ⟨aT, F, fl, r, t, hst, R, h⟩ := h
  have h : Post ((ev S.M a r t).bind fun x t => lift ((S.M.glb k).bind fun d => gixD d x) t) _ _ := h
  refine useE R (h.bind.mono (fun x t1 h v H1 F1 g1' R1 V1 => ?_) fun _ _ _ k => k)
  obtain ⟨z, hz, kk⟩ := h.lift
  rw [G.mm, g1] at hz
  have hz : gixD (.tuple xs) x = some z := hz
  cases x with
  | str w =>
    simp only [gixD] at hz
    split at hz
    · rename_i hs
      obtain ⟨n, e1, e2⟩ := Option.map_eq_some_iff.mp hz
      subst e2
      obtain ⟨j, z, e3, e4, e5, e6⟩ := place_at e1
      rw [Nat.zero_add] at e3
      subst e3
      obtain ⟨hT, hR⟩ := hq H1 fun _ => False
      obtain ⟨ys, e7, e8⟩ := strs_rp hR hs
      cases V1
      have eqs : ∀ {m : Nat} {z' : PyData}, xs[m]? = some z' → ∃ s, z' = .str s ∧ ys[m]? = some s := fun {m z'} h => by
        rw [e8, List.getElem?_map] at h
        obtain ⟨s, h1, h2⟩ := Option.map_eq_some_iff.mp h
        exact ⟨s, h2.symm, h1⟩
      obtain ⟨s, e9, e10⟩ := eqs e4
      subst e9
      have hw : s = w := by simpa [PyData.eqv] using e5
      subst hw
      refine ⟨q, ys, s, n, rfl, rfl, by rw [G.K, ← e7]; exact hT, e10, fun m hm hy => ?_, kk _ H1 F1 g1' R1 (.rp (.int n))⟩
      have e11 : xs[m]? = some (.str s) := by rw [e8, List.getElem?_map, hy]; rfl
      have := e6 m _ hm e11
      simp [PyData.eqv] at this
    · cases hz
  | _ => simp [gixD] at hz
end
end Ev

set_option Elab.async false
set_option autoImplicit false
set_option linter.all false
set_option maxRecDepth 100000
set_option maxHeartbeats 1000000
/-! What loops and comprehensions walk; enumerate over tuples, with a start. -/
namespace Ev
open PySem PySem.Spec PyProof.Rows L2
/-! ### enumerate, over a list or a tuple, from any start -/
def Sq (K : PySem.W.Frag) (b : Bool) (H : Hp) (a : Addr) (xs : List V) : Prop := if b = true then SqT K H a xs else SqL K H a xs
def ItEn (K : PySem.W.Frag) (b : Bool) (a : Addr) (k : Int) : It :=
  ⟨fun i H => ∃ (xs : List V) (x : V), Sq K b H a xs ∧ xs[i]? = some x, fun i H v H' => ∃ T x, v = .ref T ∧ H T = none ∧ H' = upd H T (.tup [.int (k + (i : Nat)), x]) ∧ ∀ xs, Sq K b H a xs → xs[i]? = some x, fun i H => ∃ xs : List V, Sq K b H a xs ∧ xs.length ≤ i⟩
def ItrAt (b : Bool) (h : Heap) (it a : Addr) (i : Nat) : Prop := if b = true then h.IsTupleIter it a i else h.IsListIter it a i
def SeqAt' (b : Bool) (h : Heap) (a : Addr) (items : Array Value) : Prop := if b = true then h.IsTuple a items else h.IsList a items
theorem draws_sq {prog : Program} {w : World} {A : Around} (b : Bool) (hh : A.handled = none) (it t : Addr) (hne : t ≠ it) (items : Array Value) :
    Draws prog w A it [it, t] items.size (fun i v => items[i]? = some v) (fun i h => ItrAt b h it t i ∧ SeqAt' b h t items) := by
  cases b with
  | true => exact Draws.tuple hh it t hne items
  | false => exact Draws.list hh it t hne items
theorem sq_at {X : Cx} {pins : List (Addr × Obj)} {σ : L2.St} {H : Hp} {s : Shared} {b : Bool} {a : Addr} {xs : List V} (I : Inv X pins σ H s) (h : Sq X.K b H a xs) : ∃ its : List Value, Vals xs its ∧ SeqAt' b s.heap a its.toArray ∧ ∀ ys, Sq X.K b H a ys → ys = xs := by
  cases b with
  | true =>
    obtain ⟨its, rv, p, _⟩ := I.tuple h
    exact ⟨its, rv, p, fun ys hy => I.tuple_inj hy h⟩
  | false =>
    obtain ⟨its, rv, p, _⟩ := I.list h
    exact ⟨its, rv, p.isList, fun ys hy => I.list_inj hy h⟩
theorem ItrAt.there {b : Bool} {h : Heap} {it a : Addr} {i : Nat} (x : ItrAt b h it a i) : ∃ o, h.get? it = some o ∧ ∀ v, o.data ≠ .cell v := by
  cases b with
  | true =>
    obtain ⟨o, h1, h2, h3⟩ := x
    exact ⟨o, h1, fun v e => by rw [h3] at e; cases e⟩
  | false =>
    obtain ⟨o, h1, h2, h3⟩ := x
    exact ⟨o, h1, fun v e => by rw [h3] at e; cases e⟩
theorem ItrAt.keep {b : Bool} {h h' : Heap} {it a : Addr} {i : Nat} (x : ItrAt b h it a i) (k : ∀ o, h.get? it = some o → h'.get? it = some o) : ItrAt b h' it a i := by
  cases b with
  | true => exact Heap.IsTupleIter.at x k
  | false => exact Heap.IsListIter.at x k
theorem SeqAt'.there {b : Bool} {h : Heap} {a : Addr} {items : Array Value} (x : SeqAt' b h a items) : ∃ o, h.get? a = some o ∧ ∃ n, o.data = .seq items n := by
  cases b with
  | true =>
    obtain ⟨o, h1, h2, n, h3⟩ := x
    exact ⟨o, h1, n, h3⟩
  | false =>
    obtain ⟨o, h1, h2, n, h3⟩ := x
    exact ⟨o, h1, n, h3⟩
theorem ItrAt.ne {b : Bool} {h : Heap} {it a : Addr} {i : Nat} {items : Array Value} (x : ItrAt b h it a i) (y : SeqAt' b h a items) : a ≠ it := fun e => by
  subst e
  obtain ⟨o, h1, n, h2⟩ := y.there
  cases b with
  | true =>
    obtain ⟨o', h3, h4, h5⟩ := x
    rw [h1] at h3
    cases h3
    rw [h2] at h5
    cases h5
  | false =>
    obtain ⟨o', h3, h4, h5⟩ := x
    rw [h1] at h3
    cases h3
    rw [h2] at h5
    cases h5
theorem turn_en {P : Program} {w : World} {K : PySem.W.Frag} {elts : List Expr} {kk : Nat} {tpos : Pos} (b : Bool) (k : Int) (a e it : Addr) :
    Turn P w K (.Tuple elts kk tpos) (ItEn K b a k) [e, it] e (fun i h => (∃ old, IsEnum h e it (k + ((i : Nat) : Int)) old) ∧ ItrAt b h it a i ∧ e ≠ it) where
  mem := by simp
  obj := fun i h st c hb => by
    obtain ⟨⟨old, he⟩, hi, _⟩ := st
    have e' : c = e ∨ c = it := by simpa using hb
    rcases e' with z | z
    · rw [z]; exact ⟨_, he, fun v q => nomatch q⟩
    · rw [z]; exact hi.there
  keep := fun i h h' st kp => let ⟨⟨old, he⟩, hi, hne⟩ := st; ⟨⟨old, kp e (by simp) _ he⟩, hi.keep fun o q => kp it (by simp) o q, hne⟩
  item := by
    intro X hP hw hK hc i pins s σ H E I hf st hg
    subst hP hw hK
    obtain ⟨⟨old, he⟩, hit, hne⟩ := st
    obtain ⟨xs, x, hq, hx⟩ := hg
    obtain ⟨its, rv, p, inj⟩ := sq_at I hq
    obtain ⟨u, hu, ru⟩ := rv.get hx
    have hai : a ≠ it := hit.ne p
    have hea : e ≠ a := fun z => by
      obtain ⟨o, h1, n, h2⟩ := p.there
      rw [← z] at h1
      have he' : s.heap.get? e = some { cls := .type "enumerate", dict := none, data := .fields #[.none, .bool false, .ref it, rawInt (k + ((i : Nat) : Int)), .none, old], slots := #[] } := he
      rw [he'] at h1
      cases h1
      cases h2
    have hel : e < s.heap.objs.size := Heap.lt_size he
    have hil : it < s.heap.objs.size := by obtain ⟨_, q, _⟩ := hit.there; exact Heap.lt_size q
    have hlt : i < its.toArray.size := by
      have := (List.getElem?_eq_some_iff.mp hu).1
      simpa using this
    refine wpAny_pyNext_enum_itemC (draws_sq b (A := X.A.in1) (I.ok.hd hc) it a hai its.toArray) he ⟨hit, p⟩ hlt hne (by simp [hne, hea]) fun x' h' tk hP' ho hst' hT hsz hk => ?_
    have hxu : x' = u := by
      have : its[i]? = some x' := by simpa using hP'
      rw [hu] at this
      exact (Option.some.inj this).symm
    subst hxu
    refine ⟨_, rfl, wpAny_letOwnedTupleGo_enum (s := { s with heap := h', toks := tk + 1 }) ho fun h'' he' sb => ?_⟩
    have hT2 : h''.get? s.heap.objs.size = some { cls := .type "tuple", data := .seq #[.int (k + (i : Int)) tk, x'] } := (sb.2 _ (Nat.ne_of_gt hel)).trans hT
    have new : ObjOk X.prog X.w (upd H s.heap.objs.size (.tup [.int (k + (i : Nat)), x])) h'' s.heap.objs.size (.tup [.int (k + (i : Nat)), x]) :=
      ⟨by show 2 ≤ sizeLine; decide, [.int (k + (i : Int)) tk, x'], .cons ⟨_, rfl⟩ (.cons ru .nil), ⟨_, hT2, rfl, _, rfl⟩⟩
    have I1 : Inv X pins σ (upd H s.heap.objs.size (.tup [.int (k + (i : Nat)), x])) { s with heap := h'', toks := tk + 1 } :=
      I.turnedNew (ch := [e, it]) (fun c ob hb q => (sb.2 c (fun z => hb (by simp [z]))).trans (hk c ob (fun z => hb (by simp [z])) (fun z => hb (by simp [z])) q)) hf (Nat.le_refl _) new
    refine ⟨.ref s.heap.objs.size, _, I1, rfl, ⟨_, x, rfl, I.hok.fresh (Nat.le_refl _), rfl, fun ys hy => by rw [inj ys hy]; exact hx⟩, ⟨⟨x', ?_⟩, hst'.1.keep fun o q => (sb.2 it (Ne.symm hne)).trans q, hne⟩, fun c hb => ?_⟩
    · have e1 : k + ((i + 1 : Nat) : Int) = k + (i : Int) + 1 := by omega
      rw [e1]; exact he'
    · have hb' : c < s.heap.objs.size := by
        have e' : c = e ∨ c = it := by simpa using hb
        rcases e' with z | z
        · rw [z]; exact hel
        · rw [z]; exact hil
      rw [upd_ne (Nat.ne_of_lt hb')]
      exact (hf c hb).1
  done := by
    intro X hP hw hK hc i pins s σ H E I hf st hg
    subst hP hw hK
    obtain ⟨⟨old, he⟩, hit, hne⟩ := st
    obtain ⟨xs, hq, hx⟩ := hg
    obtain ⟨its, rv, p, _⟩ := sq_at I hq
    obtain ⟨f0, f1, f2, f3, f4, f5⟩ := hf it (by simp)
    have hl := rv.length
    have hai : a ≠ it := hit.ne p
    have hT : s.TypeIs (.ref e) "enumerate" := ⟨_, he, rfl⟩
    unfold pyNext
    refine wpAny_bind (wpAny_attempt (wpAny_callSpecial?_slot (name := Str.ofString "__next__") hT F.slot_enumerate_next
      (wpAny_call_entry F.slot_enumerate_next hT F.entry_enumerate_next ?_ (F.args_enumerate_next_1 _))))
    show wpAny _ _ (field (.ref e) 2 >>= _) _ _ _
    refine wpAny_bind (wpAny_field he rfl (x := .ref it) rfl ?_)
    have fin : ∀ {A : Around} {h' : Heap} {x : Addr}, Heap.ExtBut it s.heap h' → (∃ o, h'.get? x = some o ∧ o.cls = .type "StopIteration") → True := fun _ _ => True.intro
    cases b with
    | true =>
      refine wpAny_bind (wpAny_nextOf_tuple_end (I.ok.hd hc) hit p (by simp; omega) fun h' x he' hx' => ?_)
      obtain ⟨o, ho, hcl⟩ := hx'
      refine wpAny_bind (wpAny_isInstance (T := "StopIteration") (b := true) ⟨o, ho, hcl⟩ isSubtype_stop ?_)
      exact wpAny_pure ⟨rfl, I.turned (t' := s.toks) (fun c o hb q => he' c o hb q) f0 f1 f3 f4 f5⟩
    | false =>
      refine wpAny_bind (wpAny_nextOf_list_end (I.ok.hd hc) hit p (by simp; omega) fun h' x he' hx' => ?_)
      obtain ⟨o, ho, hcl⟩ := hx'
      refine wpAny_bind (wpAny_isInstance (T := "StopIteration") (b := true) ⟨o, ho, hcl⟩ isSubtype_stop ?_)
      exact wpAny_pure ⟨rfl, I.turned (t' := s.toks) (fun c o hb q => he' c o hb q) f0 f1 f3 f4 f5⟩
  self := fun A i s Q E st h => let ⟨⟨_, he⟩, _⟩ := st; wpAny_pyIter_enum he h
set_option maxHeartbeats 2000000 in
theorem meets_enum_B1 {v : Value} {o : Obj} {H : Heap → Prop} (B : Begins v o H) :
    Meets (Builtin.«enumerate.__new__» ⟨[.type "enumerate", v], []⟩) (fun _ R s => H s.heap ∧
      R (.ok (.ret (.ref (s.heap.push o).objs.size))) { s with heap := (s.heap.push o).push { cls := .type "enumerate", data := .fields #[.none, .bool false, .ref s.heap.objs.size, rawInt 0, .none, .none] } }) :=
  .of_wp fun prog w A R s h => by
    obtain ⟨hp, g, d, tk, os⟩ := s; obtain ⟨h1, h⟩ := h
    have hsub := sub_enumerate
    have q1 : ∀ {A' : Around} {E : Value → Shared → Prop} {Q : Value → Shared → Prop}, Q (.ref hp.objs.size) ⟨hp.push o, g, d, tk, os⟩ → wpAny (model prog w) A' (pyIter v) Q E ⟨hp, g, d, tk, os⟩ :=
      fun q => B.iter prog w _ _ ⟨hp, g, d, tk, os⟩ _ h1 q
    wp_walk using q1
    refine wpAny_stack_any fun st => wpAny_pure ?_
    split
    · rename_i c _ _ _ _ _
      cases (c == Value.type "enumerate")
      · wp_walk using q1
        exact ⟨_, rfl, h⟩
      · wp_walk using q1
        exact ⟨_, rfl, h⟩
    · wp_walk using q1
      exact ⟨_, rfl, h⟩
section
variable {prog : Program} {w : World} {A : Around} {E : Value → Shared → Prop} {s : Shared}
theorem enum_begins1 {v : Value} {o : Obj} {H : Heap → Prop} {Q : Value → Shared → Prop} (B : Begins v o H) (h1 : H s.heap)
    (h : ∀ h', IsEnum h' (s.heap.objs.size + 1) s.heap.objs.size 0 .none → h'.get? s.heap.objs.size = some o → h'.objs.size = s.heap.objs.size + 2 →
      (∀ b o, s.heap.get? b = some o → h'.get? b = some o) → Q (.ref (s.heap.objs.size + 1)) { s with heap := h' }) :
    wpAny (model prog w) A (call (.type "enumerate") [v]) Q E s := by
  refine callType_new F.called_enumerate (by decide) (F.typeCall_enumerate_1 _) (F.newCall_enumerate_1 _) (fun obj => F.args_object_init_2 obj _) F.entry_enumerate_new
    (meets_enum_B1 B) ⟨h1, ?_⟩
  have hz : (s.heap.push o).objs.size = s.heap.objs.size + 1 := Heap.size_push ..
  show _ ∧ _
  rw [hz]
  have he : IsEnum ((s.heap.push o).push { cls := .type "enumerate", data := .fields #[.none, .bool false, .ref s.heap.objs.size, rawInt 0, .none, .none] }) (s.heap.objs.size + 1) s.heap.objs.size 0 .none := by
    have := Heap.get?_push_size (s.heap.push o) (o := { cls := .type "enumerate", data := .fields #[.none, .bool false, .ref s.heap.objs.size, rawInt 0, .none, .none] }) rfl
    rw [hz] at this; exact this
  refine ⟨⟨_, he, rfl⟩, h _ he (Heap.get?_push_of_some _ (Heap.get?_push_size _ B.free)) (by rw [Heap.size_push, hz]) fun b o x => Heap.get?_push_of_some _ (Heap.get?_push_of_some _ x)⟩
end
def itObj (b : Bool) (a : Addr) : Obj := { cls := .type (if b = true then "tuple_iterator" else "list_iterator"), data := .fields #[.ref a, .int 0 0] }
theorem begins_sq (b : Bool) (a : Addr) (items : Array Value) : Begins (.ref a) (itObj b a) fun h => SeqAt' b h a items := by
  cases b with
  | true => exact begins_tuple a items
  | false => exact begins_list a items
theorem itObj_at {b : Bool} {h : Heap} {it a : Addr} (e : h.get? it = some (itObj b a)) : ItrAt b h it a 0 := by
  cases b with
  | true => exact ⟨_, e, rfl, rfl⟩
  | false => exact ⟨_, e, rfl, rfl⟩
/-- enumerate(x), enumerate(x, k) -/
def iEn (K : PySem.W.Frag) (one : Bool) (ta : TA) : TI := fun σ H R => ta σ H fun vs H1 => ∃ b a xs k, vs = (if one = true then [V.ref a] else [V.ref a, .int k]) ∧ (one = true → k = 0) ∧ -(2 ^ 62) ≤ k ∧ k < 2 ^ 62 ∧ Sq K b H1 a xs ∧ R (ItEn K b a k) H1
theorem pi_en {X : Cx} {one : Bool} {e : Expr} {es : List Expr} {ta : TA} {p pos tpos : Pos} {elts : List Expr} {kk : Nat} (hg : Gl X "enumerate") (hm : X.mg "enumerate" = none) (ha : PA X (e :: es) ta) (hs : starEach (e :: es) X.env = (false, eval e X.env) :: starEach es X.env) (hpl : (backTo pos (starEach es X.env)).any (·.1) = false) :
    PI X (.Tuple elts kk tpos) (.Call (.Name "enumerate" p) (e :: es) [] pos) (iEn X.K one ta) := by
  refine ⟨fun pins s σ H R I h => ?_⟩
  refine Call_ (ld_blt I hg hm boot_enumerate (PyProof.Rows.callWith_type1 (thn (ha.run pos pins s σ H _ I h) fun us s1 ⟨vs, H1, I1, r1, q1⟩ => ?_) hs hpl))
  obtain ⟨b, a, xs, k, ex, hk1, hk2, hk3, hq, q⟩ := q1
  subst ex
  obtain ⟨its, rv, p', _⟩ := sq_at I1 hq
  have fin : ∀ h', IsEnum h' (s1.heap.objs.size + 1) s1.heap.objs.size k .none → h'.get? s1.heap.objs.size = some (itObj b a) → h'.objs.size = s1.heap.objs.size + 2 →
      (∀ b o, s1.heap.get? b = some o → h'.get? b = some o) → wpAny (model X.prog X.w) X.A (pyIter (.ref (s1.heap.objs.size + 1))) (PIE X pins σ (.Tuple elts kk tpos) R) X.xe { s1 with heap := h' } := fun h' he hit hsz hk => by
    refine wpAny_pyIter_enum he ?_
    have I2 : Inv X pins σ H1 { s1 with heap := h' } := I1.kept (t' := s1.toks) hk
    refine ⟨s1.heap.objs.size + 1, [s1.heap.objs.size + 1, s1.heap.objs.size], _, _, H1, rfl, I2, turn_en b k a (s1.heap.objs.size + 1) s1.heap.objs.size, ⟨⟨.none, by simpa using he⟩, itObj_at hit, Nat.succ_ne_self _⟩, fun c hb => ?_, q⟩
    have e' : c = s1.heap.objs.size + 1 ∨ c = s1.heap.objs.size := by simpa using hb
    have hle : s1.heap.objs.size ≤ c := by
      rcases e' with z | z
      · rw [z]; exact Nat.le_add_right _ _
      · rw [z]; exact Nat.le_refl _
    exact I1.fpOk hle (I1.hok.fresh hle)
  cases one with
  | true =>
    have hk0 := hk1 rfl
    subst hk0
    rw [if_pos rfl] at r1
    cases r1 with
    | cons r rr =>
      cases rr
      cases r
      exact enum_begins1 (begins_sq b a its.toArray) p' fin
  | false =>
    rw [if_neg Bool.false_ne_true] at r1
    cases r1 with
    | cons r rr =>
      cases rr with
      | cons r' rr =>
        cases rr
        cases r
        obtain ⟨t, rfl⟩ := r'
        exact enum_begins (begins_sq b a its.toArray) p' (by omega) (by omega) fin
end Ev

set_option Elab.async false
set_option autoImplicit false
set_option linter.all false
set_option maxRecDepth 100000
set_option maxHeartbeats 1000000
/-! What loops and comprehensions walk: the readings; targets. -/
namespace Ev
open PySem PySem.Spec PyProof.Rows L2
/-- J walks xs while what is in A stands as at H -/
def Wk (K : PySem.W.Frag) (J : It) (H : Hp) (A : Addr → Prop) (xs : List PyData) : Prop :=
  Walk J xs.length (fun H' => Keep A H H') (fun i H1 x H2 => (∀ a o, H1 a = some o → H2 a = some o) ∧ ∃ d, xs[i]? = some d ∧ Rp K H2 A x d)
section
variable {K : PySem.W.Frag} {H : Hp} {A : Addr → Prop}
theorem wk_list {a : Addr} {us : List V} {xs : List PyData} (h : LsA H A a us) (r : RpA K H A us xs) : Wk K (Itl K a) H A xs := by
  unfold Wk
  rw [← r.len]
  refine walk_list.mono (fun H' k => (h.keep k fun _ z => z).sq) fun i H1 x H2 hi k y => ?_
  obtain ⟨e, y⟩ := y
  subst e
  obtain ⟨d, e1, e2⟩ := r.get' y
  exact ⟨fun _ _ h => h, d, e1, e2.keep k fun _ z => z⟩
theorem wk_tup {a : Addr} {us : List V} {xs : List PyData} (h : SqT K H a us) (r : RpA K H A us xs) : Wk K (Itt K a) H A xs := by
  unfold Wk
  rw [← r.len]
  refine walk_tup.mono (fun H' k => sqT_keep h k) fun i H1 x H2 hi k y => ?_
  obtain ⟨e, y⟩ := y
  subst e
  obtain ⟨d, e1, e2⟩ := r.get' y
  exact ⟨fun _ _ h => h, d, e1, e2.keep k fun _ z => z⟩
theorem rngD_len {i j : Int} : (rngD i j).length = (j - i).toNat := by simp [rngD]
theorem wk_range {i j : Int} : Wk K (Itr i (j - i).toNat) H A (rngD i j) := by
  unfold Wk
  rw [rngD_len]
  refine walk_range.mono (fun H' k => trivial) fun n H1 x H2 hi k y => ?_
  obtain ⟨e, y⟩ := y
  subst e y
  refine ⟨fun _ _ h => h, .int (i + n), ?_, .int _⟩
  unfold rngD
  rw [List.getElem?_map, List.getElem?_range hi]
  rfl
theorem wk_rangeC {i j c : Int} {n : Nat} (e : rngN i j c = n) : Wk K (Itc i c n) H A (rn3D i j c) := by
  unfold Wk rn3D
  rw [e, List.length_map, List.length_range]
  refine walk_rangeC.mono (fun H' k => trivial) fun m H1 x H2 hi k y => ?_
  obtain ⟨e, y⟩ := y
  subst e y
  refine ⟨fun _ _ h => h, .int (i + m * c), ?_, .int _⟩
  rw [List.getElem?_map, List.getElem?_range hi]
  rfl
theorem sq_keep {b : Bool} {H' : Hp} {a : Addr} {us : List V} (h : Sq K b H a us) (hb : b = false → LsA H A a us) (k : Keep A H H') : Sq K b H' a us := by
  cases b with
  | true => exact sqT_keep h k
  | false => exact ((hb rfl).keep k fun _ z => z).sq
theorem wk_en {b : Bool} {s : Int} {a : Addr} {us : List V} {xs : List PyData} (h : Sq K b H a us) (hb : b = false → LsA H A a us) (r : RpA K H A us xs) : Wk K (ItEn K b a s) H A (enuD s xs) := by
  have hl : (enuD s xs).length = us.length := by simp [enuD, r.len]
  unfold Wk
  rw [hl]
  refine ⟨fun i H' hi k => ⟨us, us[i], sq_keep h hb k, by simp [hi]⟩, fun H' k => ⟨us, sq_keep h hb k, Nat.le_refl _⟩, fun i H1 v H2 hi k y => ?_⟩
  obtain ⟨T, x, e1, e2, e3, e4⟩ := y
  subst e1 e3
  obtain ⟨d, e5, e6⟩ := r.get' (e4 us (sq_keep h hb k))
  have ex := ext_new (o := .tup [V.int (s + (i : Nat)), x]) e2
  refine ⟨ex, .tuple [.int (s + (i : Nat)), d], ?_, .tup (.inl (.inl upd_same)) (.cons (.int _) (.cons ((e6.keep k fun _ z => z).keep (keep_all ex) fun _ z => z) .nil))⟩
  unfold enuD
  rw [List.getElem?_map, List.getElem?_zipIdx, e5]
  simp
theorem wk_zip {b : Bool} {p q : Addr} {us vs : List V} {xs ys : List PyData} (hu : Sq K b H p us) (hub : b = false → LsA H A p us) (hv : Sq K b H q vs) (hvb : b = false → LsA H A q vs) (r : RpA K H A us xs) (r' : RpA K H A vs ys) :
    Wk K (if b = true then RZ.ItzT K p q else Itz K p q) H A (zipD xs ys) := by
  have hl : (zipD xs ys).length = min us.length vs.length := by simp [zipD, r.len, r'.len]
  have key : ∀ (i : Nat) (H1 H2 : Hp) (T : Addr) (x y : V), Keep A H H1 → H1 T = none → H2 = upd H1 T (.tup [x, y]) → us[i]? = some x → vs[i]? = some y → (∀ a o, H1 a = some o → H2 a = some o) ∧ ∃ d, (zipD xs ys)[i]? = some d ∧ Rp K H2 A (.ref T) d := fun i H1 H2 T x y k e2 e3 hx hy => by
    subst e3
    obtain ⟨d, e5, e6⟩ := r.get' hx
    obtain ⟨d', e5', e6'⟩ := r'.get' hy
    have ex := ext_new (o := .tup [x, y]) e2
    refine ⟨ex, .tuple [d, d'], ?_, .tup (.inl (.inl upd_same)) (.cons ((e6.keep k fun _ z => z).keep (keep_all ex) fun _ z => z) (.cons ((e6'.keep k fun _ z => z).keep (keep_all ex) fun _ z => z) .nil))⟩
    unfold zipD
    rw [List.getElem?_map, (List.getElem?_zip_eq_some (z := (d, d'))).mpr ⟨e5, e5'⟩]
    rfl
  unfold Wk
  rw [hl]
  cases b with
  | true =>
    refine ⟨fun i H' hi k => ?_, fun H' k => ⟨us, vs, sq_keep hu hub k, sq_keep hv hvb k, by omega⟩, fun i H1 v H2 hi k y => ?_⟩
    · have h1 : i < us.length := by omega
      have h2 : i < vs.length := by omega
      exact ⟨us, vs, us[i], vs[i], sq_keep hu hub k, sq_keep hv hvb k, by simp [h1], by simp [h2]⟩
    · obtain ⟨T, x, z, e1, e2, e3, e4, e5⟩ := y
      subst e1
      exact key i H1 H2 T x z k e2 e3 (e4 us (sq_keep hu hub k)) (e5 vs (sq_keep hv hvb k))
  | false =>
    refine ⟨fun i H' hi k => ?_, fun H' k => ⟨us, vs, sq_keep hu hub k, sq_keep hv hvb k, by omega⟩, fun i H1 v H2 hi k y => ?_⟩
    · have h1 : i < us.length := by omega
      have h2 : i < vs.length := by omega
      exact ⟨us, vs, us[i], vs[i], sq_keep hu hub k, sq_keep hv hvb k, by simp [h1], by simp [h2]⟩
    · obtain ⟨T, x, z, e1, e2, e3, e4, e5⟩ := y
      subst e1
      exact key i H1 H2 T x z k e2 e3 (e4 us (sq_keep hu hub k)) (e5 vs (sq_keep hv hvb k))
end
theorem walkD_seq {x : PyData} {xs : List PyData} (h : walkD x = some xs) : seqD x = some xs ∧ xs.length ≤ line := by
  obtain ⟨ys, e1, e2⟩ := Option.bind_eq_some_iff.mp (show (seqD x).bind (fun xs => if xs.length ≤ line then some xs else none) = some xs from h)
  split at e2
  · rename_i hl
    cases e2
    exact ⟨e1, hl⟩
  · cases e2
theorem walk_ls {xs : List PyData} {t : Tp} {ko : List PyData → Tp → Prop} {kx : Nat → List PyData → Tp → Prop} (h : Post (lift (walkD (.list xs)) t) ko kx) : ko xs t := by
  obtain ⟨ys, e, h⟩ := h.lift
  cases (walkD_seq e).1
  exact h
def tI (S : Sx) (e : Ex) : TI := fun σ H R => ∃ aT F fl r t, aT.s = S.s ∧ Rel S.K aT F fl r t σ H ∧ Post ((ev S.M e r t).bind fun x t => lift (walkD x) t) (fun xs t' =>
  ∀ J H' F1, Go aT F H F1 H' → Rel S.K aT F1 fl r t' σ H' → Wk S.K J H' (fun a => F1 a ∨ OA fl σ (retE e) a) xs → R J H') (PX S aT F fl r σ H)
theorem piOf {X : Cx} {tg iter : Expr} {t t' : TI} (h : PI X tg iter t) (f : ∀ σ H Q, t' σ H Q → t σ H Q) : PI X tg iter t' := ⟨fun pins s σ H R I q => h.run pins s σ H R I (f σ H R q)⟩
section
variable {S : Sx} {c : Ck} {X : Cx} {tg : Expr}
/-- a list or a tuple -/
def iSq (K : PySem.W.Frag) (tl : TE) : TI := fun σ H R => tl σ H fun x H1 => ∃ a b xs, x = .ref a ∧ Sq K b H1 a xs ∧ R (if b = true then Itt K a else Itl K a) H1
theorem pi_sq {l : Expr} {tl : TE} (hl : PE X l tl) : PI X tg l (iSq X.K tl) := by
  refine ⟨fun pins s σ H R I h => ?_⟩
  refine thn (hl.run pins s σ H _ I h) fun v s1 ⟨x, H1, I1, r1, q1⟩ => ?_
  obtain ⟨a, b, xs, e, hq, q⟩ := q1
  subst e
  cases r1
  have fp : ∀ b ∈ [s1.heap.objs.size], FpOk X pins H1 b := fun b hb => by
    have e : b = s1.heap.objs.size := by simpa using hb
    subst e
    exact I1.fpOk (Nat.le_refl _) (I1.hok.fresh (Nat.le_refl _))
  cases b with
  | false =>
    obtain ⟨its, rv, p, hz⟩ := I1.list (show SqL X.K H1 a xs from hq)
    refine wpAny_pyIter_list p.isList ?_
    exact ⟨s1.heap.objs.size, [s1.heap.objs.size], _, _, H1, rfl, I1.kept (t' := s1.toks) fun b o e => Heap.get?_push_of_some _ e, turn_list a _, ⟨_, Heap.get?_push_size _ rfl, rfl, rfl⟩, fp, q⟩
  | true =>
    obtain ⟨its, rv, p, hz⟩ := I1.tuple (show SqT X.K H1 a xs from hq)
    refine wpAny_pyIter_tuple (show s1.heap.IsTuple a its.toArray from p) ?_
    exact ⟨s1.heap.objs.size, [s1.heap.objs.size], _, _, H1, rfl, I1.kept (t' := s1.toks) fun b o e => Heap.get?_push_of_some _ e, turn_tuple a _, ⟨_, Heap.get?_push_size _ rfl, rfl, rfl⟩, fp, q⟩
theorem rp_sq {K : PySem.W.Frag} {H : Hp} {A : Addr → Prop} {v : V} {x : PyData} {xs : List PyData} (h : Rp K H A v x) (e : seqD x = some xs) : ∃ a b us, v = .ref a ∧ Sq K b H a us ∧ (b = false → LsA H A a us) ∧ RpA K H A us xs ∧ (b = true ↔ ∃ ys, x = .tuple ys) := by
  cases h with
  | lst h1 h2 => cases e; exact ⟨_, false, _, rfl, h1.sq, fun _ => h1, h2, ⟨fun z => by (cases z), fun ⟨_, z⟩ => by cases z⟩⟩
  | tup h1 h2 => cases e; exact ⟨_, true, _, rfl, h1, fun z => (by cases z), h2, ⟨fun z => ⟨_, rfl⟩, fun _ => rfl⟩⟩
  | _ => cases e
/-- an expression's value is got, frozen -/
theorem i_seq {a : Ex} {x : Expr} (G : Good S c X) (ha : PE X x (tE S a)) : PI X tg x (tI S a) := by
  have op := pi_sq (tg := tg) ha
  rw [G.K] at op
  refine piOf op fun σ H R h => ?_
  obtain ⟨aT, F, fl, r, t, hst, R0, h⟩ := h
  refine useE R0 (h.bind.mono (fun x t1 h v H1 F1 g1 R1 V1 => ?_) fun _ _ _ k => k)
  obtain ⟨xs, hx, k⟩ := h.lift
  obtain ⟨p, b, us, e1, e2, e3, e4, _⟩ := rp_sq V1 (walkD_seq hx).1
  subst e1
  refine ⟨p, b, us, rfl, e2, k _ H1 F1 g1 R1 ?_⟩
  cases b with
  | true => exact wk_tup e2 e4
  | false => exact wk_list (e3 rfl) e4
theorem natAbs_lt {i : Int} (h : i.natAbs < 2 ^ 60) : -(2 ^ 62) ≤ i ∧ i < 2 ^ 62 := by omega
theorem i_rng1 {b : Ex} {y : Expr} {p pos : Pos} (G : Good S c X) (hg : glB c.sc "range" = true) (hst : notStar y = true) (hb : PE X y (tE S b)) : PI X tg (.Call (.Name "range" p) [y] [] pos) (tI S (.rng (.int 0) b)) := by
  refine piOf (pi_range1 (gl_of G hg) (by rw [G.mg]; exact G.fr _ (by simp [blts])) (pa_cons hb pa_nil (star_of hst)) (star_of hst)) fun σ H R h => ?_
  obtain ⟨aT, F, fl, r, t, hst, R0, h⟩ := h
  have h : Post (((ev S.M b r t).bind fun y t => lift ((asInt (PyData.int 0)).bind fun i => (asInt y).bind fun j => if i.natAbs < 2 ^ 60 ∧ j.natAbs < 2 ^ 60 then some (.list (rngD i j)) else none) t).bind fun x t => lift (walkD x) t) _ _ := h
  refine useE R0 (h.bind.bind.mono (fun x t1 h v H1 F1 g1 R1 V1 => ?_) fun _ _ _ k => k)
  obtain ⟨z, hz, h⟩ := h.lift
  obtain ⟨j, e1, e2⟩ := Option.bind_eq_some_iff.mp (show (asInt x).bind (fun j => if (0 : Int).natAbs < 2 ^ 60 ∧ j.natAbs < 2 ^ 60 then some (PyData.list (rngD 0 j)) else none) = some z from hz)
  split at e2
  · rename_i hc
    cases e2
    have hj := natAbs_lt hc.2
    refine ⟨j, by rw [rp_int V1 e1], hj.1, hj.2, walk_ls h _ H1 F1 g1 R1 ?_⟩
    have := wk_range (K := S.K) (H := H1) (A := fun a => F1 a ∨ OA fl σ (retE (.rng (.int 0) b)) a) (i := 0) (j := j)
    rw [Int.sub_zero] at this
    exact this
  · cases e2
theorem i_rng2 {a b : Ex} {x y : Expr} {p pos : Pos} (G : Good S c X) (hg : glB c.sc "range" = true) (hst1 : notStar x = true) (hst : notStar y = true) (ha : PE X x (tE S a)) (hb : PE X y (tE S b)) : PI X tg (.Call (.Name "range" p) [x, y] [] pos) (tI S (.rng a b)) := by
  refine piOf (pi_range2 (gl_of G hg) (by rw [G.mg]; exact G.fr _ (by simp [blts])) (pa_cons ha (pa_cons hb pa_nil (star_of hst)) (star_of hst1)) (by rw [star_of hst1, star_of hst]; rfl) (star_of hst)) fun σ H R h => ?_
  obtain ⟨aT, F, fl, r, t, hst, R0, h⟩ := h
  have h : Post (((ev S.M a r t).bind fun x t => (ev S.M b r t).bind fun y t => lift ((asInt x).bind fun i => (asInt y).bind fun j => if i.natAbs < 2 ^ 60 ∧ j.natAbs < 2 ^ 60 then some (.list (rngD i j)) else none) t).bind fun x t => lift (walkD x) t) _ _ := h
  refine useE R0 (h.bind.bind.mono (fun x t1 h v H1 F1 g1 R1 V1 => ?_) fun _ _ _ k => k)
  refine useE R1 (h.bind.mono (fun y t2 h u H2 F2 g2 R2 V2 => ?_) fun _ _ _ k => k.go g1)
  obtain ⟨z, hz, h⟩ := h.lift
  obtain ⟨i, e1, e2⟩ := Option.bind_eq_some_iff.mp (show (asInt x).bind _ = some z from hz)
  obtain ⟨j, e3, e4⟩ := Option.bind_eq_some_iff.mp e2
  split at e4
  · rename_i hc
    cases e4
    have hi := natAbs_lt hc.1
    have hj := natAbs_lt hc.2
    exact ⟨i, j, by rw [rp_int V1 e1, rp_int V2 e3], ⟨hi.1, hi.2, hj.1, hj.2⟩, walk_ls h _ H2 F2 (g1.trans g2) R2 wk_range⟩
  · cases e4
theorem i_enu {a s : Ex} {x : Expr} {xs : List Expr} {elts : List Expr} {kk : Nat} {tpos p pos : Pos} (G : Good S c X) (hg : glB c.sc "enumerate" = true) (hst1 : notStar x = true) (hst : xs.all notStar = true)
    (ha : PE X x (tE S a)) (hs : (s = .nil ∧ xs = []) ∨ (isNil s = false ∧ ∃ y, xs = [y] ∧ PE X y (tE S s))) : PI X (.Tuple elts kk tpos) (.Call (.Name "enumerate" p) (x :: xs) [] pos) (tI S (.enu a s)) := by
  have hm : X.mg "enumerate" = none := by rw [G.mg]; exact G.fr _ (by simp [blts])
  have hgl := gl_of G hg
  rcases hs with ⟨rfl, rfl⟩ | ⟨hn, y, rfl, hy⟩
  · have op := pi_en (one := true) (elts := elts) (kk := kk) (tpos := tpos) (p := p) (pos := pos) hgl hm (pa_cons ha pa_nil (star_of hst1)) (star_of hst1) rfl
    rw [G.K] at op
    refine piOf op fun σ H R h => ?_
    obtain ⟨aT, F, fl, r, t, hst, R0, h⟩ := h
    have h : Post (((ev S.M a r t).bind fun x t => lift ((seqD x).map fun xs => .list (enuD 0 xs)) t).bind fun x t => lift (walkD x) t) _ _ := h
    refine useE R0 (h.bind.bind.mono (fun x t1 h v H1 F1 g1 R1 V1 => ?_) fun _ _ _ k => k)
    obtain ⟨z, hz, h⟩ := h.lift
    obtain ⟨xs, hx, e⟩ := Option.map_eq_some_iff.mp hz
    subst e
    obtain ⟨p, b, us, e1, e2, e3, e4, _⟩ := rp_sq V1 hx
    subst e1
    exact ⟨b, p, us, 0, rfl, fun _ => rfl, by decide, by decide, e2, walk_ls h _ H1 F1 g1 R1 (wk_en e2 e3 e4)⟩
  · have op := pi_en (one := false) (elts := elts) (kk := kk) (tpos := tpos) (p := p) (pos := pos) hgl hm (pa_cons ha (pa_cons hy pa_nil (star_of (by simpa using hst))) (star_of hst1)) (star_of hst1) (star_any hst)
    rw [G.K] at op
    refine piOf op fun σ H R h => ?_
    obtain ⟨aT, F, fl, r, t, hst, R0, h⟩ := h
    have h : Post (((ev S.M a r t).bind fun x t => (part (isNil s) (ev S.M s r) t).bind fun k t => lift (enuV (k.getD 0) x) t).bind fun x t => lift (walkD x) t) _ _ := h
    rw [hn] at h
    have h : Post (((ev S.M a r t).bind fun x t => (((ev S.M s r t).bind fun x t => lift ((asInt x).map some) t)).bind fun k t => lift (enuV (k.getD 0) x) t).bind fun x t => lift (walkD x) t) _ _ := h
    refine useE R0 (h.bind.bind.mono (fun x t1 h v H1 F1 g1 R1 V1 => ?_) fun _ _ _ k => k)
    refine useE R1 (h.bind.bind.mono (fun y t2 h u H2 F2 g2 R2 V2 => ?_) fun _ _ _ k => k.go g1)
    obtain ⟨o, ho, h⟩ := h.lift
    obtain ⟨k, e0, e00⟩ := Option.map_eq_some_iff.mp ho
    subst e00
    obtain ⟨z, hz, h⟩ := h.lift
    unfold enuV at hz
    split at hz
    · rename_i hb
      obtain ⟨xs, hx, e⟩ := Option.map_eq_some_iff.mp hz
      subst e
      obtain ⟨p, b, us, e1, e2, e3, e4, _⟩ := rp_sq (V1.go R1 g2 fun _ h => h) hx
      subst e1
      have hk := natAbs_lt hb
      exact ⟨b, p, us, k, by rw [rp_int V2 e0]; rfl, fun z => (by cases z), hk.1, hk.2, e2, walk_ls h _ H2 F2 (g1.trans g2) R2 (wk_en e2 e3 e4)⟩
    · cases hz
theorem i_zip {a b : Ex} {x y : Expr} {elts : List Expr} {kk : Nat} {tpos p pos : Pos} (G : Good S c X) (hg : glB c.sc "zip" = true) (hst1 : notStar x = true) (hst : notStar y = true) (ha : PE X x (tE S a)) (hb : PE X y (tE S b)) :
    PI X (.Tuple elts kk tpos) (.Call (.Name "zip" p) [x, y] [] pos) (tI S (.zip a b)) := by
  have op := RZ.pi_zipA (elts := elts) (kk := kk) (tpos := tpos) (p := p) (pos := pos) (gl_of G hg) (by rw [G.mg]; exact G.fr _ (by simp [blts])) (pa_cons ha (pa_cons hb pa_nil (star_of hst)) (star_of hst1)) (star_of hst1) (star_any (by simp [hst]))
  rw [G.K] at op
  refine piOf op fun σ H R h => ?_
  obtain ⟨aT, F, fl, r, t, hst, R0, h⟩ := h
  have h : Post (((ev S.M a r t).bind fun x t => (ev S.M b r t).bind fun y t => lift (zipV x y) t).bind fun x t => lift (walkD x) t) _ _ := h
  refine useE R0 (h.bind.bind.mono (fun x t1 h v H1 F1 g1 R1 V1 => ?_) fun _ _ _ k => k)
  refine useE R1 (h.bind.mono (fun y t2 h u H2 F2 g2 R2 V2 => ?_) fun _ _ _ k => k.go g1)
  obtain ⟨z, hz, h⟩ := h.lift
  have V1' := (V1.go R1 g2 fun _ h => h).mono (B := fun q => F2 q ∨ OA fl σ (retE (.zip a b)) q) fun q z => z.elim .inl fun z => .inr (z.sub fun i hi => List.mem_append_left _ hi)
  have V2' := V2.mono (B := fun q => F2 q ∨ OA fl σ (retE (.zip a b)) q) fun q z => z.elim .inl fun z => .inr (z.sub fun i hi => List.mem_append_right _ hi)
  unfold zipV at hz
  split at hz
  · cases hz
    cases V1' with
    | lst h1 h2 =>
      cases V2' with
      | lst h3 h4 => exact ⟨_, _, _, _, rfl, .inl ⟨h1.sq, h3.sq, walk_ls h _ H2 F2 (g1.trans g2) R2 (wk_zip (b := false) h1.sq (fun _ => h1) h3.sq (fun _ => h3) h2 h4)⟩⟩
  · cases hz
    cases V1' with
    | tup h1 h2 =>
      cases V2' with
      | tup h3 h4 => exact ⟨_, _, _, _, rfl, .inr ⟨h1, h3, walk_ls h _ H2 F2 (g1.trans g2) R2 (wk_zip (b := true) h1 (fun z => by cases z) h3 (fun z => by cases z) h2 h4)⟩⟩
  · cases hz
end
end Ev

set_option Elab.async false
set_option autoImplicit false
set_option linter.all false
set_option maxRecDepth 100000
set_option maxHeartbeats 1000000
/-! Targets, comprehensions. -/
namespace Ev
open PySem PySem.Spec PyProof.Rows L2
/-! ### targets -/
/-- the slots vs got values from A -/
structure AsR (K : PySem.W.Frag) (H : Hp) (A : Addr → Prop) (vs : List Nat) (r : Env) (σ : L2.St) (r' : Env) (σ' : L2.St) : Prop where
  ls : σ'.length = σ.length
  lr : r'.length = r.length
  out : ∀ i, i ∉ vs → r'[i]? = r[i]? ∧ σ'[i]? = σ[i]?
  inn : ∀ i, i ∈ vs → i < r.length → ∃ y w, r'[i]? = some (some (.d y)) ∧ σ'[i]? = some (some w) ∧ Rp K H A w y
theorem AsR.nil {K : PySem.W.Frag} {H : Hp} {A : Addr → Prop} {r : Env} {σ : L2.St} : AsR K H A [] r σ r σ := ⟨rfl, rfl, fun _ _ => ⟨rfl, rfl⟩, fun _ h => absurd h (by simp)⟩
theorem AsR.app {K : PySem.W.Frag} {H : Hp} {A : Addr → Prop} {vs ws : List Nat} {r r1 r2 : Env} {σ σ1 σ2 : L2.St} (a : AsR K H A vs r σ r1 σ1) (b : AsR K H A ws r1 σ1 r2 σ2) : AsR K H A (vs ++ ws) r σ r2 σ2 := by
  refine ⟨b.ls.trans a.ls, b.lr.trans a.lr, fun i hi => ?_, fun i hi hl => ?_⟩
  · have h1 : i ∉ vs := fun z => hi (List.mem_append_left _ z)
    have h2 : i ∉ ws := fun z => hi (List.mem_append_right _ z)
    exact ⟨(b.out i h2).1.trans (a.out i h1).1, (b.out i h2).2.trans (a.out i h1).2⟩
  · by_cases h2 : i ∈ ws
    · exact b.inn i h2 (by rw [a.lr]; exact hl)
    · have h1 : i ∈ vs := (List.mem_append.mp hi).resolve_right h2
      obtain ⟨y, w, e1, e2, e3⟩ := a.inn i h1 hl
      exact ⟨y, w, (b.out i h2).1.trans e1, (b.out i h2).2.trans e2, e3⟩
def tGp (K : PySem.W.Frag) (p : Pa) : TG := fun v σ H Q => ∃ A x r r', σ.length = r.length ∧ Rp K H A v x ∧ asg p x r = some r' ∧ ∀ σ', AsR K H A (slotsP p) r σ r' σ' → Q σ' H
def tGps (K : PySem.W.Frag) (p : Pa) : TGs := fun vs σ H Q => ∃ A xs r r', σ.length = r.length ∧ RpA K H A vs xs ∧ asgs p xs r = some r' ∧ ∀ σ', AsR K H A (slotsP p) r σ r' σ' → Q σ' H
def locB (c : Ck) (x : Str) : Bool := match c.sc.names.lookup x with
  | some .local => true
  | some .cell => decide (c.fb.names.lookup x = some .cell)
  | _ => false
mutual
def chkP (c : Ck) : Pa → Expr → Bool
  | .nm i, .Name x _ => decide (c.N[i]? = some x) && locB c x
  | .tup p, .Tuple es _ _ => chkPs c p es
  | _, _ => false
def chkPs (c : Ck) : Pa → List Expr → Bool
  | .nil, [] => true
  | .cons p q, e :: es => chkP c p e && chkPs c q es
  | _, _ => false
end
theorem asg_of {e : Expr} {es : List Expr} {env : PySem.Env} (h : notStar e = true) : assignEach (e :: es) env = (false, assign e env) :: assignEach es env := by
  cases e <;> first | rfl | cases h
theorem chkP_ns {c : Ck} {p : Pa} {e : Expr} (h : chkP c p e = true) : notStar e = true := by
  cases p <;> cases e <;> first | rfl | (simp [chkP] at h)
theorem chkPs_ns {c : Ck} : ∀ {p : Pa} {es : List Expr}, chkPs c p es = true → ∀ env, (assignEach es env).findIdx? (·.1) = none ∧ (assignEach es env).length = es.length
  | .nil, [], _, env => ⟨rfl, rfl⟩
  | .cons p q, e :: es, h, env => by
    have h : (chkP c p e && chkPs c q es) = true := by simpa [chkPs] using h
    rw [Bool.and_eq_true] at h
    obtain ⟨h1, h2⟩ := chkPs_ns h.2 env
    rw [asg_of (chkP_ns h.1)]
    refine ⟨?_, by simp [h2]⟩
    rw [List.findIdx?_cons]
    simp [h1]
theorem asgs_len : ∀ {p : Pa} {xs : List PyData} {r r' : Env}, asgs p xs r = some r' → ∀ {c : Ck} {es : List Expr}, chkPs c p es = true → xs.length = es.length
  | .nil, [], _, _, _, _, [], _ => rfl
  | .cons p q, x :: xs, r, r', h, c, e :: es, hc => by
    obtain ⟨r1, _, h2⟩ := Option.bind_eq_some_iff.mp (show (asg p x r).bind (fun r' => asgs q xs r') = some _ from h)
    have hc : (chkP c p e && chkPs c q es) = true := by simpa [chkPs] using hc
    rw [Bool.and_eq_true] at hc
    simp [asgs_len h2 hc.2]
section
variable {S : Sx} {c : Ck} {X : Cx}
theorem loc_of {x : Str} (G : Good S c X) (h : locB c x = true) : Loc X.env.scope x ∧ (X.fn x = true ∨ X.env.scope.names.lookup x = some .local) := by
  unfold locB at h
  rw [G.sc]
  split at h
  · rename_i e
    exact ⟨.inl e, .inr e⟩
  · rename_i e
    exact ⟨.inr e, .inl (G.fn x (of_decide_eq_true h))⟩
  · cases h
theorem pgOf {e : Expr} {t t' : TG} (h : PG X e t) (f : ∀ v σ H Q, t' v σ H Q → t v σ H Q) : PG X e t' := ⟨fun pins s σ H v u Q I r q => h.run pins s σ H v u Q I r (f v σ H Q q)⟩
theorem pgsOf {e : List Expr} {t t' : TGs} (h : PGs X e t) (f : ∀ v σ H Q, t' v σ H Q → t v σ H Q) : PGs X e t' := ⟨fun pins s σ H v u Q I r q => h.run pins s σ H v u Q I r (f v σ H Q q)⟩
mutual
theorem g_pa (G : Good S c X) (hc : c.calm = true) : ∀ (p : Pa) (e : Expr), chkP c p e = true → PG X e (tGp S.K p)
  | .nm i, .Name x pos, h => by
    have h : (decide (c.N[i]? = some x) && locB c x) = true := by simpa [chkP] using h
    rw [Bool.and_eq_true] at h
    have hN := of_decide_eq_true h.1
    obtain ⟨h1, h2⟩ := loc_of G h.2
    refine pgOf (pg_name (i := i) G.nd (by rw [G.N]; exact hN) h1 h2) fun v σ H Q q => ?_
    obtain ⟨A, x, r, r', hl, rp, e, q⟩ := q
    have e : some (r.set i (some (.d x))) = some r' := by simpa [asg] using e
    cases e
    refine q _ ⟨by simp, by simp, fun j hj => ?_, fun j hj hjl => ?_⟩
    · have hne : i ≠ j := fun z => hj (by simp [slotsP, z])
      rw [List.getElem?_set_ne hne, List.getElem?_set_ne hne]
      exact ⟨rfl, rfl⟩
    · have hij : j = i := by simpa [slotsP] using hj
      subst hij
      exact ⟨x, v, by simp [hjl], by simp [hl, hjl], rp⟩
  | .tup p, .Tuple es k pos, h => by
    have h : chkPs c p es = true := by simpa [chkP] using h
    have gs := g_pas G hc p es h
    obtain ⟨n1, n2⟩ := chkPs_ns h X.env
    have a := pg_tup (X := X) (k := k) (pos := pos) (G.calm hc) gs n2 n1
    have b := pg_lst (X := X) (k := k) (pos := pos) (G.calm hc) gs n2 n1
    rw [G.K] at a b
    refine ⟨fun pins s σ H v u Q I r q => ?_⟩
    obtain ⟨A, x, r0, r', hl, rp, e, q⟩ := q
    cases rp with
    | tup h1 h2 =>
      rename_i a0 us ds
      have e : asgs p ds r0 = some r' := by simpa [asg] using e
      exact a.run pins s σ H _ u Q I r ⟨_, _, rfl, h1, by rw [h2.len]; exact asgs_len e h, A, ds, r0, r', hl, h2, e, q⟩
    | lst h1 h2 =>
      rename_i a0 us ds
      have e : asgs p ds r0 = some r' := by simpa [asg] using e
      exact b.run pins s σ H _ u Q I r ⟨_, _, rfl, h1.sq, by rw [h2.len]; exact asgs_len e h, A, ds, r0, r', hl, h2, e, q⟩
    | _ => simp [asg] at e
  | .nil, _, h | .cons _ _, _, h => by simp [chkP] at h
  | .nm _, .BoolOp .., h | .nm _, .NamedExpr .., h | .nm _, .BinOp .., h | .nm _, .UnaryOp .., h | .nm _, .Lambda .., h | .nm _, .IfExp .., h | .nm _, .Dict .., h | .nm _, .Set .., h | .nm _, .ListComp .., h | .nm _, .SetComp .., h
  | .nm _, .DictComp .., h | .nm _, .GeneratorExp .., h | .nm _, .Await .., h | .nm _, .Yield .., h | .nm _, .YieldFrom .., h | .nm _, .Compare .., h | .nm _, .Call .., h | .nm _, .FormattedValue .., h | .nm _, .JoinedStr .., h | .nm _, .Constant .., h
  | .nm _, .Attribute .., h | .nm _, .Subscript .., h | .nm _, .Starred .., h | .nm _, .List .., h | .nm _, .Tuple .., h | .nm _, .Slice .., h => by simp [chkP] at h
  | .tup _, .BoolOp .., h | .tup _, .NamedExpr .., h | .tup _, .BinOp .., h | .tup _, .UnaryOp .., h | .tup _, .Lambda .., h | .tup _, .IfExp .., h | .tup _, .Dict .., h | .tup _, .Set .., h | .tup _, .ListComp .., h | .tup _, .SetComp .., h
  | .tup _, .DictComp .., h | .tup _, .GeneratorExp .., h | .tup _, .Await .., h | .tup _, .Yield .., h | .tup _, .YieldFrom .., h | .tup _, .Compare .., h | .tup _, .Call .., h | .tup _, .FormattedValue .., h | .tup _, .JoinedStr .., h | .tup _, .Constant .., h
  | .tup _, .Attribute .., h | .tup _, .Subscript .., h | .tup _, .Starred .., h | .tup _, .List .., h | .tup _, .Name .., h | .tup _, .Slice .., h => by simp [chkP] at h
theorem g_pas (G : Good S c X) (hc : c.calm = true) : ∀ (p : Pa) (es : List Expr), chkPs c p es = true → PGs X es (tGps S.K p)
  | .nil, [], _ => pgsOf pgs_nil fun vs σ H Q q => by
    obtain ⟨A, xs, r, r', hl, rp, e, q⟩ := q
    cases rp with
    | nil =>
      have e : some r = some r' := by simpa [asgs] using e
      cases e
      exact ⟨rfl, q σ .nil⟩
    | cons _ _ => simp [asgs] at e
  | .cons p q, e :: es, h => by
    have h : (chkP c p e && chkPs c q es) = true := by simpa [chkPs] using h
    rw [Bool.and_eq_true] at h
    refine pgsOf (pgs_cons (g_pa G hc p e h.1) (g_pas G hc q es h.2) (by rw [asg_of (chkP_ns h.1)]; rfl)) fun vs σ H Q k => ?_
    obtain ⟨A, xs, r, r', hl, rp, ea, k⟩ := k
    cases rp with
    | nil => simp [asgs] at ea
    | cons r1 r2 =>
      obtain ⟨rm, e1, e2⟩ := Option.bind_eq_some_iff.mp (show (asg p _ r).bind (fun r' => asgs q _ r') = some _ from ea)
      refine ⟨_, _, rfl, A, _, r, rm, hl, r1, e1, fun σ1 a1 => ⟨A, _, rm, r', by rw [a1.ls, a1.lr, hl], r2, e2, fun σ2 a2 => k σ2 (a1.app a2)⟩⟩
  | .nil, _ :: _, h | .cons _ _, [], h | .nm _, _, h | .tup _, _, h => by simp [chkPs] at h
end
end
/-! ### frames of blocks -/
def flx (fl : Flg) (js : List Nat) : Flg := fun i => fl i && !js.contains i
theorem flx_iff {fl : Flg} {js : List Nat} {i : Nat} : flx fl js i = true ↔ fl i = true ∧ i ∉ js := by
  unfold flx
  rw [Bool.and_eq_true, Bool.not_eq_true', ← Bool.not_eq_true, List.contains_iff_mem]
section
variable {K : PySem.W.Frag} {aT : TpA} {F F' : Addr → Prop} {fl : Flg} {r : Env} {t t' : Tp} {σ : L2.St} {H H' : Hp}
theorem Rel.after (R : Rel K aT F fl r t σ H) (g : Go aT F H F' H') (T' : TR K aT F' t' H') : Rel K aT F' fl r t' σ H' := by
  have e1 : (fun a => F a ∨ OA fl σ [] a) = F := funext fun a => propext ⟨fun z => z.elim id fun ⟨i, h, _⟩ => absurd h (by simp), .inl⟩
  have e2 : (fun a => F' a ∧ ¬ OA fl σ [] a) = F' := funext fun a => propext ⟨fun z => z.1, fun z => ⟨z, fun ⟨i, h, _⟩ => absurd h (by simp)⟩⟩
  have := (back (is := []) R (by rw [e1]; exact g) T').2
  rwa [e2] at this
theorem Rel.asg {vs : List Nat} {r' : Env} {σ' : L2.St} (R : Rel K aT F fl r t σ H) (a : AsR K H F vs r σ r' σ') : Rel K aT F (flx fl vs) r' t σ' H := by
  refine ⟨R.toTR, by rw [a.ls, a.lr, R.len], fun i v hv => ?_, fun i hi => ?_, fun i j p hi hj h1 h2 => ?_⟩
  · by_cases hm : i ∈ vs
    · have hlt : i < r.length := by
        unfold getV at hv
        split at hv
        · rename_i e
          have := (List.getElem?_eq_some_iff.mp e).1
          rw [← a.lr]; exact this
        · cases hv
      obtain ⟨y, w, e1, e2, e3⟩ := a.inn i hm hlt
      unfold getV at hv
      rw [e1] at hv
      cases hv
      refine ⟨w, e2, ?_⟩
      unfold SltR
      rw [if_neg (fun z => (flx_iff.mp z).2 hm)]
      exact e3
    · obtain ⟨e1, e2⟩ := a.out i hm
      have hv' : getV r i = some v := by unfold getV at hv ⊢; rw [← e1]; exact hv
      obtain ⟨x, hx, q⟩ := R.slot i v hv'
      refine ⟨x, e2.trans hx, ?_⟩
      have : flx fl vs i = fl i := by
        cases h : fl i with
        | false => simp [flx, h]
        | true => exact flx_iff.mpr ⟨h, hm⟩
      rw [this]
      exact q
  · obtain ⟨h1, h2⟩ := flx_iff.mp hi
    obtain ⟨v, hv⟩ := R.own i h1
    refine ⟨v, ?_⟩
    unfold getV at hv ⊢
    rw [(a.out i h2).1]
    exact hv
  · obtain ⟨a1, a2⟩ := flx_iff.mp hi
    obtain ⟨b1, b2⟩ := flx_iff.mp hj
    rw [(a.out i a2).2] at h1
    rw [(a.out j b2).2] at h2
    exact R.dis i j p a1 b1 h1 h2
theorem blank_len (r : Env) : ∀ vs : List Nat, (blank vs r).length = r.length
  | [] => rfl
  | v :: vs => by unfold blank; rw [List.length_set, blank_len r vs]
theorem blank_out {r : Env} {i : Nat} : ∀ {vs : List Nat}, i ∉ vs → (blank vs r)[i]? = r[i]?
  | [], _ => rfl
  | v :: vs, h => by
    unfold blank
    rw [List.getElem?_set_ne (fun z => h (by simp [z])), blank_out fun z => h (List.mem_cons_of_mem _ z)]
theorem blank_in {r : Env} {i : Nat} : ∀ {vs : List Nat}, i ∈ vs → getV (blank vs r) i = none
  | v :: vs, h => by
    unfold blank getV
    by_cases hv : v = i
    · subst hv
      by_cases hl : v < (blank vs r).length
      · rw [List.getElem?_set_self hl]
      · rw [List.getElem?_eq_none (by simpa using hl)]
    · rw [List.getElem?_set_ne hv]
      exact blank_in (r := r) (vs := vs) ((List.mem_cons.mp h).resolve_left fun z => hv z.symm)
theorem wipe_out {σ : L2.St} {i : Nat} : ∀ {vs : List Nat}, i ∉ vs → (wipe σ vs)[i]? = σ[i]?
  | [], _ => rfl
  | v :: vs, h => by
    unfold wipe
    rw [List.getElem?_set_ne (fun z => h (by simp [z])), wipe_out fun z => h (List.mem_cons_of_mem _ z)]
theorem wipe_in {σ : L2.St} {i : Nat} : ∀ {vs : List Nat}, i ∈ vs → i < σ.length → (wipe σ vs)[i]? = some none
  | v :: vs, h, hl => by
    unfold wipe
    by_cases hv : v = i
    · subst hv
      rw [List.getElem?_set_self (by rw [wipe_length]; exact hl)]
    · rw [List.getElem?_set_ne hv]
      exact wipe_in ((List.mem_cons.mp h).resolve_left fun z => hv z.symm) hl
theorem wipe_eq {σ σ2 : L2.St} {vs : List Nat} (hl : σ2.length = σ.length) (h : ∀ i, i ∉ vs → σ2[i]? = σ[i]?) : wipe σ2 vs = wipe σ vs := by
  apply List.ext_getElem?
  intro i
  by_cases hm : i ∈ vs
  · by_cases hi : i < σ.length
    · rw [wipe_in hm hi, wipe_in hm (by omega)]
    · rw [List.getElem?_eq_none (by rw [wipe_length]; omega), List.getElem?_eq_none (by rw [wipe_length]; omega)]
  · rw [wipe_out hm, wipe_out hm]
    exact h i hm
/-- a block's frame: the slots vs unbound, what is owned in the slots is frozen -/
theorem Rel.block (R : Rel K aT F fl r t σ H) (vs is : List Nat) : Rel K aT (fun a => F a ∨ OA fl σ is a) (flx fl (vs ++ is)) (blank vs r) t (wipe σ vs) H := by
  have old : ∀ {a}, OA fl σ is a → ∃ v, OwR K aT F H (.ref a) v := fun {a} ⟨i, _, hf, hs⟩ => by
    obtain ⟨v, x, _, hx, q⟩ := R.ownR hf
    rw [hs] at hx
    cases hx
    exact ⟨v, q⟩
  refine ⟨⟨fun a ha => ?_, fun ts ht => ?_, R.none, R.tabs⟩, by rw [wipe_length, blank_len, R.len], fun i v hv => ?_, fun i hi => ?_, fun i j p hi hj h1 h2 => ?_⟩
  · rcases ha with ha | ha
    · exact R.dom a ha
    · obtain ⟨v, b, e, _, _, q⟩ := old ha
      cases e
      rcases q with ⟨xs, ds, _, e, _⟩ | ⟨xs, ds, _, e, _⟩ <;> exact ⟨_, e, True.intro⟩
  · obtain ⟨a, xs, e1, e2, e3, e4, e5⟩ := R.tape ts ht
    refine ⟨a, xs, e1, e2, fun z => ?_, fun b hb => .inl (e4 b hb), e5⟩
    rcases z with z | z
    · exact e3 z
    · obtain ⟨v, b, e, _, nT, _⟩ := old z
      cases e
      exact nT e1
  · have hm : i ∉ vs := fun z => by rw [blank_in z] at hv; cases hv
    have hv' : getV r i = some v := by unfold getV at hv ⊢; rw [blank_out hm] at hv; exact hv
    obtain ⟨x, hx, q⟩ := R.slot i v hv'
    refine ⟨x, (wipe_out hm).trans hx, ?_⟩
    unfold SltR at q ⊢
    by_cases hf : fl i = true
    · rw [if_pos hf] at q
      by_cases hi : i ∈ is
      · rw [if_neg (fun z => (flx_iff.mp z).2 (List.mem_append_right _ hi))]
        obtain ⟨a, rfl, _, _, q⟩ := q
        have ha : F a ∨ OA fl σ is a := .inr ⟨i, hi, hf, hx⟩
        rcases q with ⟨xs, ds, e, hl, hr⟩ | ⟨kvs, ds, e, hl, hr⟩
        · subst e
          exact .lst ⟨hl, ha⟩ (hr.mono fun _ h => .inl h)
        · subst e
          exact .dic hl ha (hr.mono fun _ h => .inl h)
      · rw [if_pos (flx_iff.mpr ⟨hf, fun z => (List.mem_append.mp z).elim hm hi⟩)]
        obtain ⟨a, rfl, nF, nT, q⟩ := q
        refine ⟨a, rfl, fun z => ?_, nT, ?_⟩
        · rcases z with z | ⟨j, hj, hfj, hsj⟩
          · exact nF z
          · exact hi (R.dis i j a hf hfj hx hsj ▸ hj)
        · rcases q with ⟨xs, ds, e, hl, hr⟩ | ⟨kvs, ds, e, hl, hr⟩
          · exact .inl ⟨xs, ds, e, hl, hr.mono fun _ h => .inl h⟩
          · exact .inr ⟨kvs, ds, e, hl, hr.mono fun _ h => .inl h⟩
    · rw [if_neg hf] at q
      rw [if_neg (fun z => hf (flx_iff.mp z).1)]
      cases v with
      | d y => exact Rp.mono q fun _ h => .inl h
      | scr ns =>
        obtain ⟨a, e1, e2⟩ := q
        exact ⟨a, e1, e2.keep .refl fun _ h => .inl h⟩
      | lam b0 q0 =>
        obtain ⟨lm, l1, l2, l3, l4, l5⟩ := q
        exact ⟨lm, l1, l2, l3, l4, l5.keep .refl fun _ h => .inl h⟩
      | _ => exact q
  · obtain ⟨h1, h2⟩ := flx_iff.mp hi
    obtain ⟨v, hv⟩ := R.own i h1
    refine ⟨v, ?_⟩
    unfold getV at hv ⊢
    rw [blank_out fun z => h2 (List.mem_append_left _ z)]
    exact hv
  · obtain ⟨a1, a2⟩ := flx_iff.mp hi
    obtain ⟨b1, b2⟩ := flx_iff.mp hj
    rw [wipe_out fun z => a2 (List.mem_append_left _ z)] at h1
    rw [wipe_out fun z => b2 (List.mem_append_left _ z)] at h2
    exact R.dis i j p a1 b1 h1 h2
theorem OA.block {vs is js : List Nat} {a : Addr} (z : OA (flx fl is) (wipe σ vs) js a) : OA fl σ js a := by
  obtain ⟨i, hi, hf, hs⟩ := z
  obtain ⟨h1, _⟩ := flx_iff.mp hf
  exact ⟨i, hi, h1, (wipe_some hs).1⟩
theorem OA.asg {vs is js : List Nat} {a : Addr} {A : Addr → Prop} {r r' : Env} {σ' : L2.St} (h : AsR K H A vs r σ r' σ') (z : OA (flx fl (vs ++ is)) σ' js a) : OA fl σ js a := by
  obtain ⟨i, hi, hf, hs⟩ := z
  obtain ⟨h1, h2⟩ := flx_iff.mp hf
  rw [(h.out i fun z => h2 (List.mem_append_left _ z)).2] at hs
  exact ⟨i, hi, h1, hs⟩
/-- a new object of one's own is written -/
theorem Go.upd {D : Addr} {o : HO} (g : Go aT F H F' H') (hn : Nw H D) : Go aT F H F' (upd H' D o) := by
  refine ⟨⟨fun a u h n tb => ?_⟩, g.gr, g.nw, fun a h => ?_⟩
  · rw [upd_ne fun z => by rw [z] at h; exact hn.no h tb]
    exact g.nx.k a u h n tb
  · by_cases z : a = D
    · rw [z]; exact hn
    · exact g.no a fun u e => h u (by rw [upd_ne z]; exact e)
def isBox (o : HO) : Prop := (∃ xs, o = .lst xs) ∨ ∃ kvs, o = .dK kvs
theorem keep_upd {A : Addr → Prop} {D : Addr} {o u : HO} (hu : H D = some u) (hb : isBox u) (hA : ¬ A D) : Keep A H (upd H D o) := by
  refine ⟨fun b p e => ?_, fun b v hb' e => ?_, fun b xs e => ?_, fun b v w e => ?_⟩
  · rw [upd_ne fun z => by
      rw [z, hu] at e
      rcases hb with ⟨_, q⟩ | ⟨_, q⟩ <;> (subst q; cases e)]
    exact e
  · rw [upd_ne fun z => by rw [z] at hb'; exact hA hb']
    exact e
  · rw [upd_ne fun z => by
      rw [z, hu] at e
      rcases hb with ⟨_, q⟩ | ⟨_, q⟩ <;> (subst q; cases e)]
    exact e
  · rw [upd_ne fun z => by
      rw [z, hu] at e
      rcases hb with ⟨_, q⟩ | ⟨_, q⟩ <;> (subst q; cases e)]
    exact e
theorem TR.upd {D : Addr} {o u : HO} (T : TR K aT F t H) (hu : H D = some u) (hb : isBox u) (hF : ¬ F D) (hT : aT.a ≠ some D) : TR K aT F t (upd H D o) := by
  refine ⟨fun a ha => ?_, fun ts ht => ?_, T.none, fun p hp => ?_⟩
  · rw [upd_ne fun z => by rw [z] at ha; exact hF ha]
    exact T.dom a ha
  · obtain ⟨a, xs, e1, e2, e3, e4, e5⟩ := T.tape ts ht
    refine ⟨a, xs, e1, ?_, e3, e4, e5.keep (keep_upd hu hb fun z => hF (e4 D z)) fun _ z => z⟩
    rw [upd_ne fun z => by rw [z] at e1; exact hT e1]
    exact e2
  · obtain ⟨ps, h1, h2, h3⟩ := T.tabs p hp
    refine ⟨ps, ?_, h2, fun pos cv hc => ?_⟩
    · rw [upd_ne fun z => by
        rw [z, hu] at h1
        rcases hb with ⟨_, q⟩ | ⟨_, q⟩ <;> (subst q; cases h1)]
      exact h1
    · obtain ⟨c, e1, e2⟩ := h3 pos cv hc
      refine ⟨c, e1, ?_⟩
      rw [upd_ne fun z => by
        rw [z, hu] at e2
        unfold LamX.CodeO at e2
        rcases hb with ⟨_, q⟩ | ⟨_, q⟩ <;> (subst q; cases e2)]
      exact e2
end
end Ev

set_option Elab.async false
set_option autoImplicit false
set_option linter.all false
set_option maxRecDepth 100000
set_option maxHeartbeats 1000000
/-! Comprehensions. -/
namespace Ev
open PySem PySem.Spec PyProof.Rows L2
def Sx.nox (S : Sx) : Sx := { S with W := fun _ _ _ _ => False }
def Ck.blk (c : Ck) (scope : Scope) : Ck := { c with sc := relS scope c.sc, fb := scope, top := false, lam := false }
section
variable {S : Sx} {c : Ck} {X : Cx}
theorem Good.blk (G : Good S c X) (hsu : c.sui = false) (hlm : c.lmn = none) (scope : Scope) (s : Shared) (H : Hp) (C : Addr) (cl : List (Str × Addr)) (fp : List Addr) : Good S.nox (c.blk scope) (X.blk s H scope (compEnvC scope cl C X.env) fp) where
  T := G.T
  K := G.K
  mg := G.mg
  sc := by
    show relS scope X.env.scope = relS scope c.sc
    rw [G.sc]
  N := G.N
  nd := G.nd
  hu := G.hu
  calm := G.calm
  gd := G.gd
  tk := fun u s' ⟨a, B, sI, pins, σ, H, cls, d, e, I, nb, up, sky, na, os, ag, w⟩ => w.elim
  gl := G.gl
  gt := G.gt
  fr := G.fr
  rm := G.rm
  mm := G.mm
  cl := fun l f x ps g h0 h1 h2 => ⟨(G.cl l f x ps g h0 h1 h2).ex⟩
  lw := fun l f x h0 h1 => ⟨(G.lw l f x h0 h1).run⟩
  ex := G.ex
  ek := G.ek
  ev := G.ev
  ec := G.ec
  xn := fun h => G.xn hsu
  xs := fun a k h => by
    rw [show S.nox.s.xc = S.s.xc from rfl, G.xn hsu] at h
    cases h
  ac := fun a h => (hlm ▸ h : none = some a) |> fun z => nomatch z
  ln := G.ln
  lm := fun h => absurd (show false = true from h) Bool.false_ne_true
  fn := fun x h => by
    show (scope.names.lookup x == some NameKind.cell) = true
    rw [show scope.names.lookup x = some .cell from h]
    rfl
  po := fun h => absurd (show false = true from h) Bool.false_ne_true
  tp := fun h => absurd (show false = true from h) Bool.false_ne_true
def tTs (S : Sx) (e : Ex) : TT := fun σ H Q => ∃ aT F fl r t, aT.s = S.s ∧ Rel S.K aT F fl r t σ H ∧ Post (test (isNil e) (ev S.M e r) t) (fun b t' => ∀ H' F1, Go aT F H F1 H' → Rel S.K aT F1 fl r t' σ H' → Q b H') (PX S aT F fl r σ H)
theorem ptsOf {e : List Expr} {t t' : TT} (h : PTs X e t) (f : ∀ σ H Q, t' σ H Q → t σ H Q) : PTs X e t' := ⟨fun pins s σ H Q I q => h.run pins s σ H Q I (f σ H Q q)⟩
theorem ts_nil : PTs X [] (tTs S .nil) := ptsOf pts_nil fun σ H Q h => by
  obtain ⟨aT, F, fl, r, t, hst, R, h⟩ := h
  exact h H F .refl R
theorem ts_one {e : Ex} {x : Expr} (hn : isNil e = false) (h : PT X x (tT S e)) : PTs X [x] (tTs S e) := ptsOf (pts_one h) fun σ H Q h => by
  obtain ⟨aT, F, fl, r, t, hst, R, h⟩ := h
  rw [hn] at h
  exact ⟨aT, F, fl, r, t, hst, R, h⟩
theorem Post.quiet {α : Type} {q : Res α} {ko : α → Tp → Prop} {kx : Nat → List PyData → Tp → Prop} (h : Post q.quiet ko kx) : Post q ko fun _ _ _ => False := by
  cases q <;> exact h
/-- what a comprehension's walk keeps: from where it began, the new object at D -/
structure Lp (K : PySem.W.Frag) (aT : TpA) (F1 : Addr → Prop) (fl : Flg) (σ : L2.St) (H1 : Hp) (is : List Nat) (D : Addr) (F2 : Addr → Prop) (t2 : Tp) (H2 : Hp) (o : HO) : Prop where
  go : Go aT (fun a => F1 a ∨ OA fl σ is a) H1 F2 H2
  tr : TR K aT F2 t2 H2
  at_ : H2 D = some o
  nf : ¬ F2 D
section
variable {K : PySem.W.Frag} {aT : TpA} {F1 F2 F3 : Addr → Prop} {fl : Flg} {r : Env} {t1 t2 t3 : Tp} {σ : L2.St} {H1 H2 H3 : Hp} {is js : List Nat} {D : Addr} {o o' : HO}
theorem Lp.start (R : Rel K aT F1 fl r t1 σ H1) (hD : H1 D = none) (hb : isBox o) : Lp K aT F1 fl σ H1 is D (fun a => F1 a ∨ OA fl σ is a) t1 (upd H1 D o) o := by
  have ex := ext_new (o := o) hD
  have RB := R.block [] is
  refine ⟨Go.ext ex, RB.toTR.ext ex, upd_same, fun z => ?_⟩
  obtain ⟨u, e, _⟩ := RB.toTR.dom D z
  rw [hD] at e
  cases e
theorem Lp.noT (L : Lp K aT F1 fl σ H1 is D F2 t2 H2 o) (R : Rel K aT F1 fl r t1 σ H1) (hD : H1 D = none) : aT.a ≠ some D := fun e => by
  cases h : t1 with
  | none => rw [R.none h] at e; cases e
  | some ts =>
    obtain ⟨a, xs, e1, e2, _⟩ := R.tape ts h
    rw [e1] at e
    cases e
    rw [hD] at e2
    cases e2
/-- the outer frame, as it is within -/
theorem Lp.outer (L : Lp K aT F1 fl σ H1 is D F2 t2 H2 o) (R : Rel K aT F1 fl r t1 σ H1) : Go aT F1 H1 (fun a => F2 a ∧ ¬ OA fl σ is a) H2 ∧ Rel K aT (fun a => F2 a ∧ ¬ OA fl σ is a) fl r t2 σ H2 := back R L.go L.tr
/-- the block's frame, as it is within -/
theorem Lp.inner (L : Lp K aT F1 fl σ H1 is D F2 t2 H2 o) (R : Rel K aT F1 fl r t1 σ H1) (vs : List Nat) : Rel K aT F2 (flx fl (vs ++ is)) (blank vs r) t2 (wipe σ vs) H2 := (R.block vs is).after L.go L.tr
theorem Lp.noO (R : Rel K aT F1 fl r t1 σ H1) (hD : H1 D = none) : ¬ OA fl σ js D := fun ⟨i, _, hf, hs⟩ => by
  obtain ⟨v, x, _, hx, b, eb, _, _, q⟩ := R.ownR hf
  rw [hs] at hx
  cases hx
  cases eb
  rcases q with ⟨_, _, _, e, _⟩ | ⟨_, _, _, e, _⟩ <;> (rw [hD] at e; cases e)
theorem Lp.keep (L : Lp K aT F1 fl σ H1 is D F2 t2 H2 o) (R : Rel K aT F1 fl r t1 σ H1) (n : NX aT H2 H3) : Keep (fun a => F2 a ∨ OA fl σ js a) H2 H3 := by
  have k1 := L.tr.keepF n
  have k2 := (L.outer R).2.keepO n (is := js)
  exact ⟨k1.e, fun b u hb e => hb.elim (fun z => k1.a b u z e) (fun z => k2.a b u (.inr z) e), k1.t, k1.f⟩
/-- on to a later heap -/
theorem Lp.next (L : Lp K aT F1 fl σ H1 is D F2 t2 H2 o) (R : Rel K aT F1 fl r t1 σ H1) (hD : H1 D = none) (hb : isBox o) (g : Go aT F2 H2 F3 H3) (T3 : TR K aT F3 t3 H3) : Lp K aT F1 fl σ H1 is D F3 t3 H3 o := by
  refine ⟨L.go.trans g, T3, g.nx.k D o L.at_ (L.noT R hD) (fun ps e => ?_), fun z => ?_⟩
  · subst e
    rcases hb with ⟨_, q⟩ | ⟨_, q⟩ <;> cases q
  · rcases g.nw D z with z | z
    · exact L.nf z
    · exact z.no L.at_ fun ps e => by
        subst e
        rcases hb with ⟨_, q⟩ | ⟨_, q⟩ <;> cases q
/-- the object is written -/
theorem Lp.set (L : Lp K aT F1 fl σ H1 is D F2 t2 H2 o) (R : Rel K aT F1 fl r t1 σ H1) (hD : H1 D = none) (hb : isBox o) : Lp K aT F1 fl σ H1 is D F2 t2 (upd H2 D o') o' :=
  ⟨L.go.upd (.of hD), L.tr.upd L.at_ hb L.nf (L.noT R hD), upd_same, L.nf⟩
end
theorem mapT_cons {f : PyData → Tp → Res (Option PyData)} {xs : List PyData} {i : Nat} {d : PyData} (e : xs[i]? = some d) (t : Tp) : mapT f (xs.drop i) t = (f d t).bind fun y t => (mapT f (xs.drop (i + 1)) t).bind fun ys t => .ok (match y with | some z => z :: ys | none => ys) t := by
  obtain ⟨h1, h2⟩ := List.getElem?_eq_some_iff.mp e
  rw [List.drop_eq_getElem_cons h1, h2]
  rfl
theorem bind_assoc {α β γ : Type} (q : Res α) (f : α → Tp → Res β) (g : β → Tp → Res γ) : (q.bind f).bind g = q.bind fun a t => (f a t).bind g := by
  cases q <;> rfl
theorem own_snd (N : List Str) (vs : List Nat) : ((vs.map fun i => (N.getD i "", i)).map (·.2) : List Nat) = vs := by
  rw [List.map_map]
  exact List.map_id _
theorem comp_key {p : Pa} {it k e : Ex} {σ : L2.St} {H : Hp} {Q : VK} (h : tE S (.comp p it k e) σ H Q) : tLc (tI S it) (tGp S.K p) (tTs S.nox k) (tE S.nox e) (slotsP p) σ H Q := by
  obtain ⟨aT, F, fl, r, t, hst, R, h⟩ := h
  let f : PyData → Tp → Res (Option PyData) := fun x t => (lift (asg p x (blank (slotsP p) r)) t).bind fun r t => (test (isNil k) (ev S.M k r) t).bind fun k t => if k = true then (ev S.M e r t).bind fun y t => .ok (some y) t else .ok none t
  have h : Post ((ev S.M it r t).bind fun xs t => (lift (walkD xs) t).bind fun xs t => ((mapT f xs t).bind fun ys t => lift (some (PyData.list ys)) t).quiet) _ _ := h
  rw [← bind_assoc] at h
  refine ⟨aT, F, fl, r, t, hst, R, ?_⟩
  cases hit : (ev S.M it r t).bind fun xs t => lift (walkD xs) t with
  | bad => rw [hit] at h; exact h
  | exc cx px tx => rw [hit] at h; exact h
  | ok xs t1 =>
    have hl : xs.length ≤ line := by
      obtain ⟨_, _, _, e2⟩ := bind_ok hit
      exact (walkD_seq (lift_ok e2)).2
    rw [hit] at h
    intro J H1 F1 g1 R1 wk D hD
    have h := (show Post ((mapT f xs t1).bind fun ys t => lift (some (PyData.list ys)) t).quiet _ _ from h).quiet.bind
    have h : Post (mapT f xs t1) (fun ys t2 => ∀ v H' F', Go aT F H F' H' → Rel S.K aT F' fl r t2 σ H' → VR S.K H H' F' (OA fl σ (retE (.comp p it k e))) true v (.list ys) → Q v H') (fun _ _ _ => False) := h.mono (fun ys t2 q => q) fun _ _ _ z => z
    have up : ∀ (F2 : Addr → Prop) (b : Addr), (F2 b ∨ OA fl σ (retE e) b) → ((F2 b ∧ ¬ OA fl σ (retE it) b) ∨ OA fl σ (retE (.comp p it k e)) b) := fun F2 b z => by
      rcases z with z | z
      · by_cases ho : OA fl σ (retE it) b
        · exact .inr (ho.sub fun i hi => List.mem_append_left _ hi)
        · exact .inl ⟨z, ho⟩
      · exact .inr (z.sub fun i hi => List.mem_append_right _ hi)
    refine lc_it wk (fun i H2 => ∃ F2 t2 us acc, Lp S.K aT F1 fl σ H1 (retE it) D F2 t2 H2 (.lst us) ∧ RpA S.K H2 (fun a => F2 a ∨ OA fl σ (retE e) a) us acc ∧ acc.length ≤ i ∧
      Post (mapT f (xs.drop i) t2) (fun ys t3 => ∀ v H' F', Go aT F H F' H' → Rel S.K aT F' fl r t3 σ H' → VR S.K H H' F' (OA fl σ (retE (.comp p it k e))) true v (.list (acc ++ ys)) → Q v H') (fun _ _ _ => False)) ?_ ?_ ?_ ?_
    · exact ⟨_, t1, [], [], Lp.start R1 hD (.inl ⟨_, rfl⟩), .nil, Nat.le_refl _, h⟩
    · rintro i H2 hi ⟨F2, t2, us, acc, L, _⟩
      have kk := (R1.block [] (retE it)).toTR.keepF L.go.nx
      exact kk
    · rintro i x H2 H3 hi ⟨F2, t2, us, acc, L, rp, hacc, hpost⟩ ⟨ext, d, hd, rd⟩
      rw [mapT_cons hd] at hpost
      have hpost := hpost.bind
      have hpost : Post ((lift (asg p d (blank (slotsP p) r)) t2).bind fun r t => (test (isNil k) (ev S.M k r) t).bind fun k t => if k = true then (ev S.M e r t).bind fun y t => Res.ok (some y) t else .ok none t) _ _ := hpost
      obtain ⟨r1, hr1, hpost⟩ := hpost.bind.lift
      have L3 := L.next R1 hD (.inl ⟨_, rfl⟩) (Go.ext ext) (L.tr.ext ext)
      have RI := L3.inner R1 (slotsP p)
      refine ⟨F2, d, blank (slotsP p) r, r1, RI.len, rd.mono fun a z => L.go.gr a z, hr1, fun σ2 as => ⟨wipe_eq as.ls (fun i hi => (as.out i hi).2) |>.trans (wipe_eq (wipe_length _ _) fun i hi => wipe_out hi), ?_⟩⟩
      have RA := RI.asg as
      refine ⟨aT, F2, _, r1, t2, hst, RA, hpost.bind.mono (fun b t4 hb H4 F4 g4 R4 => ?_) fun _ _ _ z => z.elim⟩
      have L4 := L3.next R1 hD (.inl ⟨_, rfl⟩) g4 R4.toTR
      have rp4 := (rp.keep (L.keep R1 (NX.ext ext)) fun _ z => z).keep (L3.keep (js := retE e) R1 g4.nx) (B := fun a => F4 a ∨ OA fl σ (retE e) a) fun a z => z.elim (fun z => .inl (g4.gr a z)) .inr
      cases b with
      | false =>
        dsimp only
        rw [if_neg Bool.false_ne_true] at hb ⊢
        exact ⟨F4, t4, us, acc, L4, rp4, by omega, (show Post ((mapT f (xs.drop (i + 1)) t4).bind fun ys t => Res.ok ys t) _ _ from hb).bind.mono (fun ys t5 q => q) fun _ _ _ z => z⟩
      | true =>
        dsimp only
        rw [if_pos rfl] at hb ⊢
        refine useE R4 (hb.bind.mono (fun y t5 hy v H5 F5 g5 R5 V5 => ?_) fun _ _ _ z => z.elim)
        have L5 := L4.next R1 hD (.inl ⟨_, rfl⟩) g5 R5.toTR
        have hlen : us.length = acc.length := rp.len
        have V5 : Rp S.K H5 (fun a => F5 a ∨ OA fl σ (retE e) a) v y := V5.mono fun a z => z.elim .inl fun z => .inr ((OA.asg (vs := slotsP p) (is := slotsP p ++ retE it) (fl := fl) (js := retE e) as (by
          obtain ⟨j, hj, hf, hs⟩ := z
          obtain ⟨h1, h2⟩ := flx_iff.mp hf
          obtain ⟨h3, h4⟩ := flx_iff.mp h1
          exact ⟨j, hj, flx_iff.mpr ⟨h3, fun z => (List.mem_append.mp z).elim h2 h4⟩, hs⟩)) |> fun z => by
            obtain ⟨j, hj, hf, hs⟩ := z
            exact ⟨j, hj, hf, (wipe_some hs).1⟩)
        have nD : ¬ (F5 D ∨ OA fl σ (retE e) D) := fun z => z.elim L5.nf (Lp.noO R1 hD)
        have ku := keep_upd (A := fun a => F5 a ∨ OA fl σ (retE e) a) (o := .lst (us ++ [v])) L5.at_ (.inl ⟨_, rfl⟩) nD
        have rp5 := (rp4.keep (L4.keep (js := retE e) R1 g5.nx) (B := fun a => F5 a ∨ OA fl σ (retE e) a) fun a z => z.elim (fun z => .inl (g5.gr a z)) .inr)
        refine ⟨us, L5.at_, by rw [← line_eq]; omega, F5, t5, us ++ [v], acc ++ [y], L5.set R1 hD (.inl ⟨_, rfl⟩), (rp5.app (.cons V5 .nil)).keep ku fun _ z => z, by simp; omega, ?_⟩
        exact (show Post ((mapT f (xs.drop (i + 1)) t5).bind fun ys t => Res.ok (y :: ys) t) _ _ from hy).bind.mono (fun ys t6 q => by
          rw [List.append_assoc]
          exact q) fun _ _ _ z => z
    · rintro H2 ⟨F2, t2, us, acc, L, rp, _, hpost⟩
      have e0 : xs.drop xs.length = [] := List.drop_length ..
      rw [e0] at hpost
      have hpost := (show Post (Res.ok [] t2) _ _ from hpost).okk
      rw [List.append_nil] at hpost
      obtain ⟨g2, R2⟩ := L.outer R1
      exact hpost (.ref D) H2 _ (g1.trans g2) R2 (.inr ⟨rfl, D, rfl, g1.no D (.of hD), fun z => L.nf z.1, .inl ⟨us, acc, rfl, L.at_, rp.mono (up F2)⟩⟩)
theorem s_comp (hsu : c.sui = false) (hlm : c.lmn = none) {p : Pa} {it k e : Ex} {tg iter elt : Expr} {ifs : List Expr} {scope : Scope} {pos : Pos} (G : Good S c X) (hc : c.calm = true) (hi : PI X tg iter (tI S it))
    (hb : blkC c.N c.sc scope ((slotsP p).map fun i => (c.N.getD i "", i)) = true) (hp : chkP (c.blk scope) p tg = true)
    (ht : ∀ X', Good S.nox (c.blk scope) X' → PTs X' ifs (tTs S.nox k)) (he : ∀ X', Good S.nox (c.blk scope) X' → PE X' elt (tE S.nox e)) (hs : ∀ x, foldedSetIterable iter X.env x = pure x) :
    PE X (.ListComp elt [⟨tg, iter, ifs, 0⟩] scope pos) (tE S (.comp p it k e)) := by
  have ok : BlkOk X.N X.env.scope scope ((slotsP p).map fun i => (c.N.getD i "", i)) := by rw [G.N, G.sc]; exact blkOk_by hb
  have Lc := pe_lc (pos := pos) (G.calm hc) G.nd hi ok (fun s H C cl fp => g_pa (G.blk hsu hlm scope s H C cl fp) hc p tg hp) (fun s H C cl fp => ht _ (G.blk hsu hlm scope s H C cl fp)) (fun s H C cl fp => he _ (G.blk hsu hlm scope s H C cl fp)) hs
  rw [own_snd] at Lc
  exact peOf Lc fun σ H Q h => comp_key h
end
end Ev

set_option Elab.async false
set_option autoImplicit false
set_option linter.all false
set_option maxRecDepth 100000
set_option maxHeartbeats 1000000
/-! Statements: the frame, the reading, what is stored. -/
namespace Ev
open PySem PySem.Spec PyProof.Rows L2
def flg (fl : List Bool) : Flg := fun i => fl.getD i false
theorem flg_set {fl : List Bool} {i j : Nat} {b : Bool} : flg (fl.set i b) j = if i = j ∧ i < fl.length then b else flg fl j := by
  unfold flg
  rw [List.getD_eq_getElem?_getD, List.getD_eq_getElem?_getD, List.getElem?_set]
  by_cases h : i = j
  · subst h
    rw [if_pos rfl]
    by_cases hl : i < fl.length
    · rw [if_pos hl, if_pos ⟨rfl, hl⟩]; rfl
    · rw [if_neg hl, if_neg fun z => hl z.2, List.getElem?_eq_none (by omega)]
  · rw [if_neg h, if_neg fun z => h z.1]
theorem fz_len : ∀ (is : List Nat) (fl : List Bool), (fz fl is).length = fl.length
  | [], _ => rfl
  | i :: is, fl => by unfold fz; rw [fz_len is, List.length_set]
theorem flg_fz : ∀ (is : List Nat) (fl : List Bool), flg (fz fl is) = flx (flg fl) is
  | [], fl => funext fun j => by simp [fz, flx]
  | i :: is, fl => funext fun j => by
    unfold fz
    rw [flg_fz is]
    unfold flx
    rw [flg_set]
    by_cases h : i = j
    · subst h
      by_cases hl : i < fl.length
      · rw [if_pos ⟨rfl, hl⟩]; simp
      · rw [if_neg fun z => hl z.2]
        have : flg fl i = false := by unfold flg; rw [List.getD_eq_getElem?_getD, List.getElem?_eq_none (by omega)]; rfl
        simp [this]
    · rw [if_neg fun z => h z.1]
      have : ¬ j = i := fun z => h z.symm
      simp [this]
theorem getV_set {r : Env} {i j : Nat} {v : Option Vl} : getV (r.set i v) j = if i = j ∧ i < r.length then v else getV r j := by
  unfold getV
  rw [List.getElem?_set]
  by_cases h : i = j
  · subst h
    rw [if_pos rfl]
    by_cases hl : i < r.length
    · rw [if_pos hl, if_pos ⟨rfl, hl⟩]
      cases v <;> rfl
    · rw [if_neg hl, if_neg fun z => hl z.2, List.getElem?_eq_none (by omega)]
  · rw [if_neg h, if_neg fun z => h z.1]
/-- where a frame was entered; what must stay since some place -/
structure Bs where
  a0 : TpA
  F0 : Addr → Prop
  H0 : Hp
  Fk : Addr → Prop
  Hk : Hp
/-- a frame in its body -/
structure Fr (S : Sx) (B : Bs) (aT : TpA) (F : Addr → Prop) (s : Stt) (σ : L2.St) (H : Hp) : Prop where
  rel : Rel S.K aT F (flg s.fl) s.r s.t σ H
  go : Go B.a0 B.F0 B.H0 F H
  own : ∀ i a, flg s.fl i = true → σ[i]? = some (some (.ref a)) → Nw B.H0 a
  tp : (aT.a = B.a0.a ∧ aT.f = B.a0.f) ∨ (S.stp = true ∧ B.a0.a = none ∧ ∀ b, aT.a = some b → Nw B.H0 b)
  lf : s.fl.length = s.r.length
  kp : Keep B.Fk B.Hk H
  kf : ∀ a, B.Fk a → F a
theorem Keep.trans {A B : Addr → Prop} {H H1 H2 : Hp} (a : Keep A H H1) (b : Keep B H1 H2) (s : ∀ x, A x → B x) : Keep A H H2 := ⟨fun x p e => b.e x p (a.e x p e), fun x o h e => b.a x o (s x h) (a.a x o h e), fun x xs e => b.t x xs (a.t x xs e), fun x o u e => b.f x o u (a.f x o u e)⟩
section
variable {S : Sx} {c : Ck} {X : Cx} {B : Bs} {aT : TpA} {F F1 : Addr → Prop} {H H1 : Hp} {s : Stt} {σ : L2.St} {t1 : Tp}
theorem Fr.over (fr : Fr S B aT F s σ H) (g : Go aT F H F1 H1) : Go B.a0 B.F0 B.H0 F1 H1 := by
  rcases fr.tp with ⟨e, _⟩ | ⟨_, e, nb⟩
  · exact fr.go.trans ⟨⟨fun a o h n t => g.nx.k a o h (by rw [e]; exact n) t⟩, g.gr, g.nw, g.no⟩
  · refine ⟨⟨fun a o h n tb => ?_⟩, fun a h => g.gr a (fr.go.gr a h), fun a h => (g.nw a h).elim (fun z => fr.go.nw a z) fun z => .inr (fr.go.no a z), fun a h => fr.go.no a (g.no a h)⟩
    exact g.nx.k a o (fr.go.nx.k a o h n tb) (fun z => (nb a z).no h tb) tb
theorem Fr.step (fr : Fr S B aT F s σ H) (g : Go aT F H F1 H1) (R1 : Rel S.K aT F1 (flg s.fl) s.r t1 σ H1) : Fr S B aT F1 { s with t := t1 } σ H1 :=
  ⟨R1, fr.over g, fr.own, fr.tp, fr.lf, fr.kp.trans (fr.rel.keepF g.nx) fr.kf, fun a h => g.gr a (fr.kf a h)⟩
/-- slots are frozen -/
theorem Fr.frz (fr : Fr S B aT F s σ H) (is : List Nat) : Fr S B aT (fun a => F a ∨ OA (flg s.fl) σ is a) { s with fl := fz s.fl is } σ H := by
  have RB := fr.rel.block [] is
  refine ⟨by rw [flg_fz]; exact RB, ⟨fr.go.nx, fun a h => .inl (fr.go.gr a h), fun a h => ?_, fr.go.no⟩, fun i a h1 h2 => ?_, fr.tp, by rw [fz_len]; exact fr.lf, fr.kp, fun a h => .inl (fr.kf a h)⟩
  · rcases h with h | ⟨i, _, hf, hs⟩
    · exact fr.go.nw a h
    · exact .inr (fr.own i a hf hs)
  · rw [flg_fz] at h1
    exact fr.own i a (flx_iff.mp h1).1 h2
theorem Fr.asg {vs : List Nat} {r' : Env} {σ' : L2.St} (fr : Fr S B aT F s σ H) (a : AsR S.K H F vs s.r σ r' σ') : Fr S B aT F ⟨r', fz s.fl vs, s.t⟩ σ' H := by
  refine ⟨by rw [flg_fz]; exact fr.rel.asg a, fr.go, fun i b h1 h2 => ?_, fr.tp, by rw [fz_len, a.lr]; exact fr.lf, fr.kp, fr.kf⟩
  rw [flg_fz] at h1
  obtain ⟨h3, h4⟩ := flx_iff.mp h1
  rw [(a.out i h4).2] at h2
  exact fr.own i b h3 h2
theorem AsR.one {K : PySem.W.Frag} {A : Addr → Prop} {r : Env} {i : Nat} {v : V} {x : PyData} (hl : σ.length = r.length) (rp : Rp K H A v x) : AsR K H A [i] r σ (r.set i (some (.d x))) (σ.set i (some v)) := by
  refine ⟨by simp, by simp, fun j hj => ?_, fun j hj hjl => ?_⟩
  · have hne : i ≠ j := fun z => hj (by simp [z])
    rw [List.getElem?_set_ne hne, List.getElem?_set_ne hne]
    exact ⟨rfl, rfl⟩
  · have hij : j = i := by simpa using hj
    subst hij
    exact ⟨x, v, by simp [hjl], by simp [hl, hjl], rp⟩
/-- a new container of one's own is stored -/
theorem Fr.ownd {i : Nat} {v : V} {x : PyData} (fr : Fr S B aT F s σ H) (ow : OwR S.K aT F H v (.d x)) (hn : ∀ a, v = .ref a → Nw B.H0 a) (hd : ∀ j a, v = .ref a → flg s.fl j = true → σ[j]? ≠ some (some (.ref a))) :
    Fr S B aT F ⟨s.r.set i (some (.d x)), s.fl.set i true, s.t⟩ (σ.set i (some v)) H := by
  by_cases hi : i < s.r.length
  · have hσ : i < σ.length := by rw [fr.rel.len]; exact hi
    have hf : i < s.fl.length := by rw [fr.lf]; exact hi
    have fj : ∀ j, i ≠ j → flg (s.fl.set i true) j = flg s.fl j := fun j h => by rw [flg_set, if_neg fun z => h z.1]
    have fi : flg (s.fl.set i true) i = true := by rw [flg_set, if_pos ⟨rfl, hf⟩]
    refine ⟨⟨fr.rel.toTR, by simp [fr.rel.len], fun j w hw => ?_, fun j hj => ?_, fun j k p hj hk h1 h2 => ?_⟩, fr.go, fun j a h1 h2 => ?_, fr.tp, by simp [fr.lf], fr.kp, fr.kf⟩
    · by_cases h : i = j
      · subst h
        have hw : getV (s.r.set i (some (.d x))) i = some w := hw
        rw [getV_set, if_pos ⟨rfl, hi⟩] at hw
        cases hw
        refine ⟨v, by simp [hσ], ?_⟩
        unfold SltR
        rw [if_pos fi]
        exact ow
      · have hw : getV (s.r.set i (some (.d x))) j = some w := hw
        rw [getV_set, if_neg fun z => h z.1] at hw
        obtain ⟨y, e1, e2⟩ := fr.rel.slot j w hw
        refine ⟨y, by rw [List.getElem?_set_ne h]; exact e1, ?_⟩
        show SltR S.K aT F H (flg (s.fl.set i true) j) y w
        rw [fj j h]
        exact e2
    · by_cases h : i = j
      · subst h
        exact ⟨.d x, by show getV (s.r.set i (some (.d x))) i = _; rw [getV_set, if_pos ⟨rfl, hi⟩]⟩
      · have hj : flg (s.fl.set i true) j = true := hj
        rw [fj j h] at hj
        obtain ⟨w, hw⟩ := fr.rel.own j hj
        exact ⟨w, by show getV (s.r.set i (some (.d x))) j = _; rw [getV_set, if_neg fun z => h z.1]; exact hw⟩
    · have hj : flg (s.fl.set i true) j = true := hj
      have hk : flg (s.fl.set i true) k = true := hk
      by_cases ej : i = j <;> by_cases ek : i = k
      · omega
      · subst ej
        rw [List.getElem?_set_self hσ] at h1
        rw [fj k ek] at hk
        rw [List.getElem?_set_ne ek] at h2
        cases h1
        exact absurd h2 (hd k p rfl hk)
      · subst ek
        rw [List.getElem?_set_self hσ] at h2
        rw [fj j ej] at hj
        rw [List.getElem?_set_ne ej] at h1
        cases h2
        exact absurd h1 (hd j p rfl hj)
      · rw [fj j ej] at hj
        rw [fj k ek] at hk
        rw [List.getElem?_set_ne ej] at h1
        rw [List.getElem?_set_ne ek] at h2
        exact fr.rel.dis j k p hj hk h1 h2
    · have h1 : flg (s.fl.set i true) j = true := h1
      by_cases h : i = j
      · subst h
        rw [List.getElem?_set_self hσ] at h2
        cases h2
        exact hn a rfl
      · rw [fj j h] at h1
        rw [List.getElem?_set_ne h] at h2
        exact fr.own j a h1 h2
  · rw [List.set_eq_of_length_le (by omega), List.set_eq_of_length_le (by rw [fr.lf]; omega), List.set_eq_of_length_le (by rw [fr.rel.len]; omega)]
    exact fr
theorem OA.there {is : List Nat} {a : Addr} (fr : Fr S B aT F s σ H) (z : OA (flg s.fl) σ is a) : ∃ o, H a = some o ∧ ∀ ps, o ≠ .tbl ps := by
  obtain ⟨i, _, hf, hs⟩ := z
  obtain ⟨v, x, _, hx, b, eb, _, _, q⟩ := fr.rel.ownR hf
  rw [hs] at hx
  cases hx
  cases eb
  rcases q with ⟨_, _, _, e, _⟩ | ⟨_, _, _, e, _⟩ <;> exact ⟨_, e, fun _ z => by cases z⟩
/-- name = value -/
theorem Fr.set {i : Nat} {e : Ex} {m : Bool} {v : V} {x : PyData} (fr : Fr S B aT F s σ H) (g : Go aT F H F1 H1) (R1 : Rel S.K aT F1 (flg s.fl) s.r t1 σ H1) (V : VR S.K H H1 F1 (OA (flg s.fl) σ (retE e)) m v x) :
    ∃ F2, Fr S B aT F2 ⟨s.r.set i (some (.d x)), (fzx x e s.fl).set i (m && isMut x), t1⟩ (σ.set i (some v)) H1 := by
  have f1 := fr.step g R1
  unfold fzx
  cases hc : isCont x with
  | false =>
    rw [if_neg Bool.false_ne_true]
    have hm : isMut x = false := by cases x <;> first | rfl | cases hc
    rw [hm, Bool.and_false]
    rcases V with ⟨_, V⟩ | ⟨_, a, _, _, _, z⟩
    · exact ⟨F1, f1.asg (.one (i := i) R1.len (rp_flat (by cases x <;> first | rfl | cases hc) V))⟩
    · rcases z with ⟨_, _, z, _⟩ | ⟨_, _, z, _⟩ <;> (subst z; cases hc)
  | true =>
    rw [if_pos rfl]
    have f2 := f1.frz (retE e)
    rcases V with ⟨hm, V⟩ | ⟨hm, a, e1, e2, e3, V⟩
    · rw [hm]
      exact ⟨_, f2.asg (.one (i := i) R1.len V)⟩
    · have hx : isMut x = true := by rcases V with ⟨_, _, z, _⟩ | ⟨_, _, z, _⟩ <;> (subst z; rfl)
      rw [hm, hx, Bool.and_true]
      subst e1
      have nO : ¬ OA (flg s.fl) σ (retE e) a := fun z => by
        obtain ⟨o, q, ht⟩ := OA.there fr z
        exact e2.no q ht
      have nT : aT.a ≠ some a := fun z => by
        cases ht : s.t with
        | none => rw [fr.rel.none ht] at z; cases z
        | some ts =>
          obtain ⟨b, xs, q1, q2, _⟩ := fr.rel.tape ts ht
          rw [q1] at z
          cases z
          exact e2.no q2 fun _ z => by cases z
      refine ⟨_, f2.ownd (i := i) (v := .ref a) (x := x) ⟨a, rfl, fun z => z.elim e3 nO, nT, ?_⟩ (fun b eb => ?_) fun j b eb hj hs => ?_⟩
      · rcases V with ⟨xs, ds, q1, q2, q3⟩ | ⟨xs, ds, q1, q2, q3⟩
        · exact .inl ⟨xs, ds, by rw [q1], q2, q3⟩
        · exact .inr ⟨xs, ds, by rw [q1], q2, q3⟩
      · cases eb
        exact fr.go.no a e2
      · cases eb
        have hj : flg (fz s.fl (retE e)) j = true := hj
        rw [flg_fz] at hj
        obtain ⟨o, q, ht⟩ := OA.there (is := [j]) fr ⟨j, by simp, (flx_iff.mp hj).1, hs⟩
        exact e2.no q ht
/-- one's own container is written -/
theorem Fr.write {i : Nat} {a : Addr} {o : HO} {x : PyData} (fr : Fr S B aT F s σ H) (hf : flg s.fl i = true) (hs : σ[i]? = some (some (.ref a))) (ho : (∃ xs ds, x = .list ds ∧ o = .lst xs ∧ RpA S.K H F xs ds) ∨ (∃ kvs ds, x = .dict ds ∧ o = .dK kvs ∧ RpK S.K H F kvs ds)) :
    Fr S B aT F ⟨s.r.set i (some (.d x)), s.fl, s.t⟩ σ (upd H a o) := by
  obtain ⟨v, x0, hv, hx0, b, eb, nF, nT, q⟩ := fr.rel.ownR hf
  rw [hs] at hx0
  cases hx0
  cases eb
  have hu : ∃ u, H a = some u ∧ isBox u := by
    rcases q with ⟨xs, ds, _, e, _⟩ | ⟨xs, ds, _, e, _⟩
    · exact ⟨_, e, .inl ⟨_, rfl⟩⟩
    · exact ⟨_, e, .inr ⟨_, rfl⟩⟩
  obtain ⟨u, hu, hb⟩ := hu
  have hi : i < s.r.length := by
    have := (List.getElem?_eq_some_iff.mp hs).1
    rw [← fr.rel.len]
    exact this
  have kF : Keep F H (upd H a o) := keep_upd hu hb nF
  have other : ∀ {j b}, i ≠ j → flg s.fl j = true → σ[j]? = some (some (.ref b)) → b ≠ a := fun {j b} h hj hb e => by
    subst e
    exact h (fr.rel.dis i j b hf hj hs hb)
  refine ⟨⟨fr.rel.toTR.upd hu hb nF nT, by simp [fr.rel.len], fun j w hw => ?_, fun j hj => ?_, fr.rel.dis⟩, fr.go.upd (fr.own i a hf hs), fr.own, fr.tp, by simp [fr.lf], fr.kp.trans kF fr.kf, fr.kf⟩
  · have hw : getV (s.r.set i (some (.d x))) j = some w := hw
    by_cases h : i = j
    · subst h
      rw [getV_set, if_pos ⟨rfl, hi⟩] at hw
      cases hw
      refine ⟨.ref a, hs, ?_⟩
      unfold SltR
      rw [if_pos hf]
      refine ⟨a, rfl, nF, nT, ?_⟩
      rcases ho with ⟨xs, ds, e1, e2, e3⟩ | ⟨xs, ds, e1, e2, e3⟩
      · subst e1 e2
        exact .inl ⟨xs, ds, rfl, upd_same, e3.keep kF fun _ z => z⟩
      · subst e1 e2
        exact .inr ⟨xs, ds, rfl, upd_same, e3.keep kF fun _ z => z⟩
    · rw [getV_set, if_neg fun z => h z.1] at hw
      obtain ⟨y, e1, e2⟩ := fr.rel.slot j w hw
      refine ⟨y, e1, ?_⟩
      unfold SltR at e2 ⊢
      by_cases hj : flg s.fl j = true
      · rw [if_pos hj] at e2 ⊢
        obtain ⟨b, eb, nb, nbT, q⟩ := e2
        subst eb
        have hne := other h hj e1
        refine ⟨b, rfl, nb, nbT, ?_⟩
        rcases q with ⟨xs, ds, q1, q2, q3⟩ | ⟨xs, ds, q1, q2, q3⟩
        · exact .inl ⟨xs, ds, q1, by rw [upd_ne hne]; exact q2, q3.keep kF fun _ z => z⟩
        · exact .inr ⟨xs, ds, q1, by rw [upd_ne hne]; exact q2, q3.keep kF fun _ z => z⟩
      · rw [if_neg hj] at e2 ⊢
        cases w with
        | d y => exact Rp.keep e2 kF fun _ z => z
        | scr ns =>
          obtain ⟨b, q1, q2⟩ := e2
          exact ⟨b, q1, q2.keep kF fun _ z => z⟩
        | lam b0 q0 =>
          obtain ⟨lm, l1, l2, l3, l4, l5⟩ := e2
          exact ⟨lm, l1, l2, l3, kF.e _ _ l4, l5.keep kF fun _ z => z⟩
        | _ => exact e2
  · obtain ⟨w, hw⟩ := fr.rel.own j hj
    by_cases h : i = j
    · subst h
      exact ⟨.d x, by show getV (s.r.set i (some (.d x))) i = _; rw [getV_set, if_pos ⟨rfl, hi⟩]⟩
    · exact ⟨w, by show getV (s.r.set i (some (.d x))) j = _; rw [getV_set, if_neg fun z => h z.1]; exact hw⟩
end
/-! ### the reading -/
def OPost (S : Sx) (B : Bs) (o : Out) (D : Ends) : Prop := match o with
  | .nx s => ∀ aT F σ H, aT.s = S.s → Fr S B aT F s σ H → D.nx σ H
  | .rt x m t => ∀ aT F v H, aT.s = S.s → ((aT.a = B.a0.a ∧ aT.f = B.a0.f) ∨ S.stp = true) → Go B.a0 B.F0 B.H0 F H → TR S.K aT F t H → VR S.K B.H0 H F (fun _ => False) m v x → D.rt v H
  | .ex c p s => ∀ aT F σ H cls d, aT.s = S.s → Fr S B aT F s σ H → ExR S c p cls d H → S.W cls d σ H
  | .bad => False
def tS (S : Sx) (st : Ev.St) : TS := fun D σ H => ∃ B aT F s, aT.s = S.s ∧ Fr S B aT F s σ H ∧ OPost S B (evS S.M st s) D
theorem psOf {X : Cx} {st : Stmt} {t t' : TS} (h : PS X st t) (f : ∀ D σ H, t' D σ H → t D σ H) : PS X st t' := ⟨fun pins s σ H D I q => h.run pins s σ H D I (f D σ H q)⟩
theorem pssOf {X : Cx} {st : List Stmt} {t t' : TS} (h : PSs X st t) (f : ∀ D σ H, t' D σ H → t D σ H) : PSs X st t' := ⟨fun pins s σ H D I q => h.run pins s σ H D I (f D σ H q)⟩
section
variable {S : Sx} {c : Ck} {X : Cx} {B : Bs} {aT : TpA} {F F1 : Addr → Prop} {H H1 : Hp} {s : Stt} {σ : L2.St} {t1 : Tp} {D : Ends}
/-- an expression within a statement -/
theorem OPost.out {α : Type} {q : Res α} {f : α → Tp → Out} (fr : Fr S B aT F s σ H) (hst : aT.s = S.s) (h : OPost S B (q.out s f) D) : Post q (fun x t => OPost S B (f x t) D) (PX S aT F (flg s.fl) s.r σ H) := by
  cases q with
  | ok a t => exact h
  | exc c p t => exact fun cls d H' F1 g R e => h aT F1 σ H' cls d hst (fr.step g R) e
  | bad => exact h
theorem s_nop : PSs X [] (tS S .nop) := pssOf pss_nil fun D σ H h => by
  obtain ⟨B, aT, F, s, hst, fr, h⟩ := h
  exact h aT F σ H hst fr
theorem s_seq {a b : Ev.St} {x : Stmt} {xs : List Stmt} (ha : PS X x (tS S a)) (hb : PSs X xs (tS S b)) : PSs X (x :: xs) (tS S (.seq a b)) := pssOf (pss_cons ha hb) fun D σ H h => by
  obtain ⟨B, aT, F, s, hst, fr, h⟩ := h
  refine ⟨B, aT, F, s, hst, fr, ?_⟩
  have h : OPost S B (match evS S.M a s with | .nx s => evS S.M b s | o => o) D := h
  cases e : evS S.M a s with
  | nx s1 =>
    rw [e] at h
    exact fun aT1 F1 σ1 H1 h1 fr1 => ⟨B, aT1, F1, s1, h1, fr1, h⟩
  | rt x m t => rw [e] at h; exact h
  | ex c p s1 => rw [e] at h; exact h
  | bad => rw [e] at h; exact h
theorem s_one {a : Ev.St} {x : Stmt} (ha : PS X x (tS S a)) : PSs X [x] (tS S a) := pss_one ha
/-- name = e -/
theorem set_key {i : Nat} {e : Ex} {D : Ends} {σ : L2.St} {H : Hp} (h : tS S (.set (.nm i) e) D σ H) : tAsg (tR S e) (gName i) D σ H := by
  obtain ⟨B, aT, F, s, hst, fr, h⟩ := h
  have h : OPost S B ((evR S.M e s.r s.t).out s fun x t => .nx ⟨s.r.set i (some (.d x.1)), (fzx x.1 e s.fl).set i (x.2 && isMut x.1), t⟩) D := h
  refine ⟨aT, F, _, s.r, s.t, hst, fr.rel, (OPost.out fr hst h).mono (fun x t1 h v H1 F1 g1 R1 V1 => ?_) fun _ _ _ k => k⟩
  obtain ⟨F2, f2⟩ := fr.set (i := i) g1 R1 V1
  exact h aT F2 _ H1 hst f2
def swOk : Expr → Bool
  | .ListComp .. | .SetComp .. | .DictComp .. => false
  | _ => true
theorem sw_ok {e : Expr} {tg : Option Expr} {l : Nat} {env : PySem.Env} (h : swOk e = true) : swapsWith e tg l env = pure false := by
  cases e <;> first | rfl | cases h
theorem s_set {i : Nat} {e : Ex} {x : Str} {y : Expr} {p pos : Pos} (G : Good S c X) (hN : c.N[i]? = some x) (hl : locB c x = true) (he : PE X y (tR S e)) (hs : swapsWith y (some (.Name x p)) pos.line X.env = pure false) : PS X (.Assign [.Name x p] y pos) (tS S (.set (.nm i) e)) := by
  obtain ⟨h1, h2⟩ := loc_of G hl
  exact psOf (ps_set G.nd (by rw [G.N]; exact hN) h1 he hs h2) fun D σ H h => set_key h
theorem s_setP {p : Pa} {e : Ex} {tg y : Expr} {pos : Pos} (G : Good S c X) (hc : c.calm = true) (hp : chkP c (.tup p) tg = true) (he : PE X y (tR S e)) (hs : swapsWithSole [tg] y pos.line X.env = pure false) (hw : swappedStores [tg] y X.env = pure none) : PS X (.Assign [tg] y pos) (tS S (.set (.tup p) e)) :=
  psOf (ps_asg he (g_pa G hc _ tg hp) hs hw (by rw [asg_of (chkP_ns hp)]; rfl)) fun D σ H h => by
    obtain ⟨B, aT, F, s, hst, fr, h⟩ := h
    have h : OPost S B ((evR S.M e s.r s.t).out s fun x t => match asg (.tup p) x.1 s.r with | none => .bad | some r => .nx ⟨r, fz (fzx x.1 e s.fl) (slotsP (.tup p)), t⟩) D := h
    refine ⟨aT, F, _, s.r, s.t, hst, fr.rel, (OPost.out fr hst h).mono (fun x t1 h v H1 F1 g1 R1 V1 => ?_) fun _ _ _ k => k⟩
    cases ha : asg (.tup p) x.1 s.r with
    | none => rw [ha] at h; exact h.elim
    | some r' =>
      rw [ha] at h
      have hcn : isCont x.1 = true := by
        cases hx : x.1 <;> first | rfl | (rw [hx] at ha; simp [asg] at ha)
      obtain ⟨F2, g2, R2, sub, V2⟩ := freeze fr.rel g1 R1 V1
      have f2 := (fr.step g2 R2).frz (retE e)
      refine ⟨_, x.1, s.r, r', R2.len, V2, ha, fun σ' as => ?_⟩
      have f3 := f2.asg (r' := r') as
      have e1 : fzx x.1 e s.fl = fz s.fl (retE e) := by unfold fzx; rw [if_pos hcn]
      rw [e1] at h
      exact h aT _ σ' H1 hst f3
/-- return e -/
theorem s_ret {e : Ex} {y : Expr} {pos : Pos} (he : PE X y (tR S e)) (hv : ∀ fl, ownV fl e = false) : PS X (.Return (some y) pos) (tS S (.ret e)) :=
  psOf (ps_ret he) fun D σ H h => by
    obtain ⟨B, aT, F, s, hst, fr, h⟩ := h
    have h : OPost S B ((evR S.M e s.r s.t).out s fun x t => .rt x.1 (x.2 || ownV s.fl e) t) D := h
    rw [hv] at h
    refine ⟨aT, F, _, s.r, s.t, hst, fr.rel, (OPost.out fr hst h).mono (fun x t1 h v H1 F1 g1 R1 V1 => ?_) fun _ _ _ k => k⟩
    rw [Bool.or_false] at h
    have f2 := (fr.step g1 R1).frz (retE e)
    refine h aT _ v H1 hst (fr.tp.imp id fun z => z.1) f2.go f2.rel.toTR ?_
    rcases V1 with ⟨hm, V⟩ | ⟨hm, a, e1, e2, e3, V⟩
    · exact .inl ⟨hm, V.mono fun b z => .inl z⟩
    · refine .inr ⟨hm, a, e1, fr.go.no a e2, fun z => z.elim e3 fun z => ?_, ?_⟩
      · obtain ⟨o, q, ht⟩ := OA.there fr z
        exact e2.no q ht
      · rcases V with ⟨xs, ds, q1, q2, q3⟩ | ⟨xs, ds, q1, q2, q3⟩
        · exact .inl ⟨xs, ds, q1, q2, q3.mono fun b z => .inl z⟩
        · exact .inr ⟨xs, ds, q1, q2, q3.mono fun b z => .inl z⟩
theorem s_retv {i : Nat} {x : Str} {p pos : Pos} (G : Good S c X) (hN : c.N[i]? = some x) (hv : visB c.sc x = true) : PS X (.Return (some (.Name x p)) pos) (tS S (.ret (.var i))) := by
  obtain ⟨h1, h2, h3⟩ := visB_of hv
  refine psOf (ps_ret (pe_var (i := i) (by rw [G.N]; exact hN) (by rw [G.sc]; exact h1) h2 h3)) fun D σ H h => ?_
  obtain ⟨B, aT, F, s, hst, fr, h⟩ := h
  have h : OPost S B ((evR S.M (.var i) s.r s.t).out s fun x t => .rt x.1 (x.2 || flg s.fl i) t) D := h
  have e1 : evR S.M (.var i) s.r s.t = (ev S.M (.var i) s.r s.t).bind fun x t => .ok (x, false) t := by
    unfold evR
    rfl
  rw [e1] at h
  have e2 : ev S.M (.var i) s.r s.t = match getV s.r i with | some (.d x) => Res.ok x s.t | _ => .bad := by
    unfold ev
    rfl
  rw [e2] at h
  cases hg : getV s.r i with
  | none => rw [hg] at h; exact h.elim
  | some v =>
    cases v with
    | d y =>
      rw [hg] at h
      have h : OPost S B (.rt y (false || flg s.fl i) s.t) D := h
      rw [Bool.false_or] at h
      obtain ⟨v, hv, q⟩ := fr.rel.slot i _ hg
      refine ⟨v, hv, ?_⟩
      refine h aT F v H hst (fr.tp.imp id fun z => z.1) fr.go fr.rel.toTR ?_
      unfold SltR at q
      by_cases hf : flg s.fl i = true
      · rw [if_pos hf] at q
        obtain ⟨a, e, nF, _, q⟩ := q
        subst e
        refine .inr ⟨hf, a, rfl, fr.own i a hf hv, nF, ?_⟩
        rcases q with ⟨xs, ds, q1, q2, q3⟩ | ⟨xs, ds, q1, q2, q3⟩
        · cases q1
          exact .inl ⟨xs, ds, rfl, q2, q3.mono fun b z => .inl z⟩
        · cases q1
          exact .inr ⟨xs, ds, rfl, q2, q3.mono fun b z => .inl z⟩
      · rw [if_neg hf] at q
        exact .inl ⟨by rw [Bool.eq_false_iff.mpr hf]; rfl, Rp.mono q fun b z => .inl z⟩
    | _ => rw [hg] at h; exact h.elim
theorem s_retn {pos : Pos} : PS X (.Return none pos) (tS S .retn) := psOf ps_retN fun D σ H h => by
  obtain ⟨B, aT, F, s, hst, fr, h⟩ := h
  exact h aT F .non H hst (fr.tp.imp id fun z => z.1) fr.go fr.rel.toTR (.rp .non)
theorem s_if {k : Ex} {a b : Ev.St} {z : Expr} {xs ys : List Stmt} {pos : Pos} (hk : PT X z (tT S k)) (ha : PSs X xs (tS S a)) (hb : PSs X ys (tS S b)) : PS X (.If z xs ys pos) (tS S (.ife k a b)) :=
  psOf (ps_if hk ha hb) fun D σ H h => by
    obtain ⟨B, aT, F, s, hst, fr, h⟩ := h
    have h : OPost S B (((ev S.M k s.r s.t).bind fun x t => lift (truthD x) t).out s fun k t => if k = true then evS S.M a { s with t := t } else evS S.M b { s with t := t }) D := h
    refine ⟨aT, F, _, s.r, s.t, hst, fr.rel, (OPost.out fr hst h).mono (fun l t1 h H1 F1 g1 R1 => ?_) fun _ _ _ k => k⟩
    have f1 := fr.step g1 R1
    show if l = true then tS S a D σ H1 else tS S b D σ H1
    cases l with
    | true =>
      rw [if_pos rfl] at h ⊢
      exact ⟨B, aT, F1, _, hst, f1, h⟩
    | false =>
      rw [if_neg Bool.false_ne_true] at h ⊢
      exact ⟨B, aT, F1, _, hst, f1, h⟩
theorem s_exp {e : Ex} {y : Expr} {pos : Pos} (he : PE X y (tE S e)) (hs : swOk y = true) : PS X (.Expr y pos) (tS S (.exp e)) :=
  psOf (ps_expr he (sw_ok hs)) fun D σ H h => by
    obtain ⟨B, aT, F, s, hst, fr, h⟩ := h
    have h : OPost S B ((ev S.M e s.r s.t).out s fun _ t => .nx { s with t := t }) D := h
    refine ⟨aT, F, _, s.r, s.t, hst, fr.rel, (OPost.out fr hst h).mono (fun x t1 h v H1 F1 g1 R1 V1 => ?_) fun _ _ _ k => k⟩
    exact h aT F1 σ H1 hst (fr.step g1 R1)
end
end Ev

set_option Elab.async false
set_option autoImplicit false
set_option linter.all false
set_option maxRecDepth 100000
set_option maxHeartbeats 1000000
/-! Statements: pairs, lists that grow, the tape, loops, errors. -/
namespace Ev
open PySem PySem.Spec PyProof.Rows L2
/-! ### two values stored -/
/-- a value, ready to be stored -/
def PV (S : Sx) (aT : TpA) (F : Addr → Prop) (H0 H : Hp) (fl : Flg) (σ : L2.St) (m : Bool) (v : V) (x : PyData) : Prop :=
  ((m && isMut x) = false ∧ Rp S.K H F v x) ∨ ((m && isMut x) = true ∧ OwR S.K aT F H v (.d x) ∧ (∀ a, v = .ref a → Nw H0 a) ∧ ∀ j a, v = .ref a → fl j = true → σ[j]? ≠ some (some (.ref a)))
section
variable {S : Sx} {c : Ck} {X : Cx} {B : Bs} {aT : TpA} {F F1 F2 : Addr → Prop} {H0 H H1 H2 : Hp} {s : Stt} {σ : L2.St} {t1 t2 : Tp} {D : Ends}
theorem VR.go {fl : Flg} {r : Env} {is : List Nat} {m : Bool} {v : V} {x : PyData} (V : VR S.K H H1 F1 (OA fl σ is) m v x) (nT : ∀ a, Nw H a → aT.a ≠ some a) (R1 : Rel S.K aT F1 fl r t1 σ H1) (g : Go aT F1 H1 F2 H2) : VR S.K H H2 F2 (OA fl σ is) m v x := by
  have k := R1.keepR g is
  have up : ∀ a, (F1 a ∨ OA fl σ is a) → (F2 a ∨ OA fl σ is a) := fun a z => z.elim (fun z => .inl (g.gr a z)) .inr
  rcases V with ⟨hm, V⟩ | ⟨hm, a, e1, e2, e3, V⟩
  · exact .inl ⟨hm, V.keep k up⟩
  · have hob : ∃ o, H1 a = some o ∧ ∀ ps, o ≠ .tbl ps := by rcases V with ⟨_, _, _, e, _⟩ | ⟨_, _, _, e, _⟩ <;> exact ⟨_, e, fun _ z => by cases z⟩
    obtain ⟨o, ho, hto⟩ := hob
    have st := g.nx.k a o ho (nT a e2) hto
    refine .inr ⟨hm, a, e1, e2, fun z => ?_, ?_⟩
    · rcases g.nw a z with z | z
      · exact e3 z
      · exact z.no ho hto
    · rcases V with ⟨xs, ds, q1, q2, q3⟩ | ⟨xs, ds, q1, q2, q3⟩
      · rw [ho] at q2
        cases q2
        exact .inl ⟨xs, ds, q1, st, q3.keep k up⟩
      · rw [ho] at q2
        cases q2
        exact .inr ⟨xs, ds, q1, st, q3.keep k up⟩
theorem noTape {fl : Flg} {r : Env} {t : Tp} {a : Addr} (R : Rel S.K aT F fl r t σ H) (h : Nw H a) : aT.a ≠ some a := fun e => by
  cases ht : t with
  | none => rw [R.none ht] at e; cases e
  | some ts =>
    obtain ⟨b, xs, e1, e2, _⟩ := R.tape ts ht
    rw [e1] at e
    cases e
    exact h.no e2 fun _ z => by cases z
/-- what it holds on to is frozen -/
theorem Fr.prep {e : Ex} {m : Bool} {v : V} {x : PyData} (fr : Fr S B aT F s σ H) (hin : (m && isMut x) = false → Rp S.K H (fun a => F a ∨ OA (flg s.fl) σ (retE e) a) v x)
    (hfr : (m && isMut x) = true → ∃ a, v = .ref a ∧ ¬ F a ∧ aT.a ≠ some a ∧ Nw B.H0 a ∧ (∀ j, flg s.fl j = true → σ[j]? ≠ some (some (.ref a))) ∧
      ((∃ xs ds, x = .list ds ∧ H a = some (.lst xs) ∧ RpA S.K H (fun a => F a ∨ OA (flg s.fl) σ (retE e) a) xs ds) ∨ (∃ kvs ds, x = .dict ds ∧ H a = some (.dK kvs) ∧ RpK S.K H (fun a => F a ∨ OA (flg s.fl) σ (retE e) a) kvs ds))) :
    ∃ F2, (∀ a, F a → F2 a) ∧ (∀ a, F2 a → F a ∨ OA (flg s.fl) σ (retE e) a) ∧ Fr S B aT F2 { s with fl := fzx x e s.fl } σ H ∧ PV S aT F2 B.H0 H (flg (fzx x e s.fl)) σ m v x := by
  unfold fzx
  cases hc : isCont x with
  | false =>
    rw [if_neg Bool.false_ne_true]
    have hm : isMut x = false := by cases x <;> first | rfl | cases hc
    have hm2 : (m && isMut x) = false := by rw [hm, Bool.and_false]
    exact ⟨F, fun _ z => z, fun _ z => .inl z, fr, .inl ⟨hm2, rp_flat (by cases x <;> first | rfl | cases hc) (hin hm2)⟩⟩
  | true =>
    rw [if_pos rfl]
    refine ⟨_, fun _ z => .inl z, fun _ z => z, fr.frz (retE e), ?_⟩
    cases hm : (m && isMut x) with
    | false => exact .inl ⟨hm, hin hm⟩
    | true =>
      obtain ⟨a, e1, e2, e3, e4, e5, e6⟩ := hfr hm
      refine .inr ⟨hm, ⟨a, e1, fun z => z.elim e2 fun ⟨j, _, hf, hs⟩ => e5 j hf hs, e3, ?_⟩, fun b eb => ?_, fun j b eb hj => ?_⟩
      · rcases e6 with ⟨xs, ds, q1, q2, q3⟩ | ⟨xs, ds, q1, q2, q3⟩
        · exact .inl ⟨xs, ds, by rw [q1], q2, q3⟩
        · exact .inr ⟨xs, ds, by rw [q1], q2, q3⟩
      · rw [e1] at eb
        cases eb
        exact e4
      · rw [e1] at eb
        cases eb
        rw [flg_fz] at hj
        exact e5 j (flx_iff.mp hj).1
theorem Fr.put {i : Nat} {m : Bool} {v : V} {x : PyData} (fr : Fr S B aT F s σ H) (pv : PV S aT F B.H0 H (flg s.fl) σ m v x) : Fr S B aT F ⟨s.r.set i (some (.d x)), s.fl.set i (m && isMut x), s.t⟩ (σ.set i (some v)) H := by
  rcases pv with ⟨hm, rp⟩ | ⟨hm, ow, hn, hd⟩
  · rw [hm]
    exact fr.asg (.one (i := i) fr.rel.len rp)
  · rw [hm]
    exact fr.ownd ow hn hd
theorem s_par {i j : Nat} {a b : Ex} {x y : Str} {u w : Expr} {px py pt : Pos} {kt k2 : Nat} {pt2 pos : Pos} (G : Good S c X) (hc : c.calm = true) (hi : c.N[i]? = some x) (hj : c.N[j]? = some y) (hij : i ≠ j) (hx : c.sc.names.lookup x = some .local) (hy : c.sc.names.lookup y = some .local)
    (ha : PE X u (tR S a)) (hb : PE X w (tR S b)) (hsu : notStar u = true) (hsw : notStar w = true) (hw : swappedStores [.Tuple [.Name x px, .Name y py] kt pt] (.Tuple [u, w] k2 pt2) X.env = pure (some [x, y])) :
    PS X (.Assign [.Tuple [.Name x px, .Name y py] kt pt] (.Tuple [u, w] k2 pt2) pos) (tS S (.par i j a b)) :=
  psOf (ps_par (G.calm hc) G.nd (by rw [G.N]; exact hi) (by rw [G.N]; exact hj) hij (by rw [G.sc]; exact hx) (by rw [G.sc]; exact hy) (pa_cons ha (pa_cons hb pa_nil (star_of hsw)) (star_of hsu)) hw rfl) fun D σ H h => by
    obtain ⟨B, aT, F, s, hst, fr, h⟩ := h
    have h : OPost S B ((evR S.M a s.r s.t).out s fun x t => (evR S.M b s.r t).out s fun y t =>
      .nx ⟨(s.r.set i (some (.d x.1))).set j (some (.d y.1)), ((fzx y.1 b (fzx x.1 a s.fl)).set i (x.2 && isMut x.1)).set j (y.2 && isMut y.1), t⟩) D := h
    refine ⟨aT, F, _, s.r, s.t, hst, fr.rel, (OPost.out fr hst h).mono (fun x t1 h v H1 F1 g1 R1 V1 => ?_) fun _ _ _ k => k⟩
    have fr1 := fr.step g1 R1
    refine ⟨aT, F1, _, s.r, t1, hst, R1, ?_⟩
    have h := OPost.out (s := { s with t := t1 }) (D := D) fr1 hst (q := evR S.M b s.r t1) (f := fun y t => .nx ⟨(s.r.set i (some (.d x.1))).set j (some (.d y.1)), ((fzx y.1 b (fzx x.1 a s.fl)).set i (x.2 && isMut x.1)).set j (y.2 && isMut y.1), t⟩) (by
      revert h
      cases evR S.M b s.r t1 <;> exact id)
    refine h.mono (fun y t2 h w H2 F2 g2 R2 V2 => ?_) fun _ _ _ k => k
    have f2 := fr1.step g2 R2
    have V1' := VR.go (aT := aT) V1 (fun a ha => noTape fr.rel ha) R1 g2
    have slotNe : ∀ {a : Addr}, Nw H a → ∀ k, flg s.fl k = true → σ[k]? ≠ some (some (.ref a)) := fun {a} ha k hk hs => by
      obtain ⟨o, q, ht⟩ := OA.there (is := [k]) fr ⟨k, by simp, hk, hs⟩
      exact ha.no q ht
    obtain ⟨F3, s3, w3, f3, pv⟩ := f2.prep (e := a) (m := x.2) (v := v) (x := x.1) (fun hm => by
        rcases V1' with ⟨_, V⟩ | ⟨hm', b, _, _, _, V⟩
        · exact V
        · have : isMut x.1 = true := by rcases V with ⟨_, _, z, _⟩ | ⟨_, _, z, _⟩ <;> (rw [z]; rfl)
          rw [hm', this] at hm
          cases hm) (fun hm => by
        rcases V1' with ⟨hm', _⟩ | ⟨_, b, e1, e2, e3, V⟩
        · rw [hm] at hm'; cases hm'
        · exact ⟨b, e1, e3, noTape fr.rel e2, fr.go.no b e2, slotNe e2, V⟩)
    have inF3 : ∀ q, OA (flg s.fl) σ (retE b) q → F3 q ∨ OA (flg (fzx x.1 a s.fl)) σ (retE b) q := fun q ⟨k, hk, hf, hs⟩ => by
      unfold fzx
      cases hcx : isCont x.1 with
      | false =>
        rw [if_neg Bool.false_ne_true]
        exact .inr ⟨k, hk, hf, hs⟩
      | true =>
        rw [if_pos rfl]
        by_cases hka : k ∈ retE a
        · have hs3 := f3.rel.slot k
          have hfk : flg (fzx x.1 a s.fl) k = false := by
            unfold fzx
            rw [if_pos hcx, flg_fz]
            exact Bool.eq_false_iff.mpr fun z => (flx_iff.mp z).2 hka
          obtain ⟨v0, hv0⟩ := fr.rel.own k hf
          obtain ⟨x0, hx0, q0⟩ := hs3 v0 hv0
          rw [hs] at hx0
          cases hx0
          unfold SltR at q0
          rw [if_neg (by rw [show flg ({ s with fl := fzx x.1 a s.fl, t := t2 } : Stt).fl k = false from hfk]; exact Bool.false_ne_true)] at q0
          obtain ⟨v1, x1, hv1, hx1, b1, eb1, _, _, ow⟩ := fr.rel.ownR hf
          rw [hs] at hx1
          cases hx1
          cases eb1
          rw [hv0] at hv1
          cases hv1
          rcases ow with ⟨xs, ds, z, _, _⟩ | ⟨xs, ds, z, _, _⟩
          · subst z
            cases q0 with
            | lst h1 h2 => exact .inl h1.2
          · subst z
            cases q0 with
            | dic h1 h2 h3 => exact .inl h2
        · exact .inr ⟨k, hk, by rw [flg_fz]; exact flx_iff.mpr ⟨hf, hka⟩, hs⟩
    have upB : ∀ q, (F2 q ∨ OA (flg s.fl) σ (retE b) q) → (F3 q ∨ OA (flg (fzx x.1 a s.fl)) σ (retE b) q) := fun q z => z.elim (fun z => .inl (s3 q z)) (inF3 q)
    have flDown : ∀ {x e fl k}, flg (fzx x e fl) k = true → flg fl k = true := fun {x e fl k} z => by
      unfold fzx at z
      split at z
      · rw [flg_fz] at z
        exact (flx_iff.mp z).1
      · exact z
    have old1 : ∀ {q : Addr}, Nw H1 q → Nw H q := fun {q} z => g1.no q z
    obtain ⟨F4, s4, w4, f4, pw⟩ := f3.prep (e := b) (m := y.2) (v := w) (x := y.1) (fun hm => by
        rcases V2 with ⟨_, V⟩ | ⟨hm', q, _, _, _, V⟩
        · exact V.mono upB
        · have : isMut y.1 = true := by rcases V with ⟨_, _, z, _⟩ | ⟨_, _, z, _⟩ <;> (rw [z]; rfl)
          rw [hm', this] at hm
          cases hm) (fun hm => by
        rcases V2 with ⟨hm', _⟩ | ⟨_, q, e1, e2, e3, V⟩
        · rw [hm] at hm'; cases hm'
        · refine ⟨q, e1, fun z => ?_, noTape fr.rel (old1 e2), fr.go.no q (old1 e2), fun k hk => slotNe (old1 e2) k (flDown hk), ?_⟩
          · rcases w3 q z with z | ⟨k, _, hf, hs⟩
            · exact e3 z
            · exact slotNe (old1 e2) k hf hs
          · rcases V with ⟨xs, ds, q1, q2, q3⟩ | ⟨xs, ds, q1, q2, q3⟩
            · exact .inl ⟨xs, ds, q1, q2, q3.mono upB⟩
            · exact .inr ⟨xs, ds, q1, q2, q3.mono upB⟩)
    have pv4 : PV S aT F4 B.H0 H2 (flg (fzx y.1 b (fzx x.1 a s.fl))) σ x.2 v x.1 := by
      rcases pv with ⟨hm, rp⟩ | ⟨hm, ⟨q, e1, e2, e3, V⟩, hn, hd⟩
      · exact .inl ⟨hm, rp.mono s4⟩
      · refine .inr ⟨hm, ⟨q, e1, fun z => ?_, e3, ?_⟩, hn, fun k p ep hk => hd k p ep (flDown hk)⟩
        · rcases w4 q z with z | ⟨k, _, hf, hs⟩
          · exact e2 z
          · exact hd k q e1 hf hs
        · rcases V with ⟨xs, ds, q1, q2, q3⟩ | ⟨xs, ds, q1, q2, q3⟩
          · exact .inl ⟨xs, ds, q1, q2, q3.mono s4⟩
          · exact .inr ⟨xs, ds, q1, q2, q3.mono s4⟩
    have f5 := f4.put (i := i) pv4
    have pw5 : PV S aT F4 B.H0 H2 (flg ((fzx y.1 b (fzx x.1 a s.fl)).set i (x.2 && isMut x.1))) (σ.set i (some v)) y.2 w y.1 := by
      rcases pw with ⟨hm, rp⟩ | ⟨hm, ow, hn, hd⟩
      · exact .inl ⟨hm, rp⟩
      · refine .inr ⟨hm, ow, hn, fun k p ep hk hs => ?_⟩
        rw [flg_set] at hk
        by_cases hki : i = k ∧ i < (fzx y.1 b (fzx x.1 a s.fl)).length
        · rw [if_pos hki] at hk
          obtain ⟨e1, e2⟩ := hki
          subst e1
          have hlt : i < σ.length := by
            have l1 := f4.lf
            have l2 := f4.rel.len
            simp only at l1 l2
            omega
          rw [List.getElem?_set_self hlt] at hs
          cases hs
          -- both are new: the one was there when the other came
          rcases V2 with ⟨hm', _⟩ | ⟨_, q, z1, z2, _, _⟩
          · rw [hm] at hm'; cases hm'
          · rw [ep] at z1
            cases z1
            rcases V1 with ⟨hm', _⟩ | ⟨_, q', y1, y2, _, V⟩
            · rw [hk] at hm'; cases hm'
            · cases y1
              rcases V with ⟨_, _, _, z, _⟩ | ⟨_, _, _, z, _⟩ <;> exact (z2.no z fun _ z => by cases z).elim
        · rw [if_neg hki] at hk
          by_cases hik : i = k
          · have hl : ¬ i < (fzx y.1 b (fzx x.1 a s.fl)).length := fun z => hki ⟨hik, z⟩
            have : flg (fzx y.1 b (fzx x.1 a s.fl)) k = false := by
              unfold flg
              rw [List.getD_eq_getElem?_getD, List.getElem?_eq_none (by omega)]
              rfl
            rw [this] at hk
            cases hk
          · rw [List.getElem?_set_ne hik] at hs
            exact hd k p ep hk hs
    have f6 := f5.put (i := j) pw5
    exact ⟨v, w, rfl, h aT F4 _ H2 hst f6⟩
end
end Ev

set_option Elab.async false
set_option autoImplicit false
set_option linter.all false
set_option maxRecDepth 100000
set_option maxHeartbeats 1000000
/-! Statements: lists that grow, the tape, loops, errors. -/
namespace Ev
open PySem PySem.Spec PyProof.Rows L2
def plainBase : Expr → Bool
  | .Call (.Name id _) [] [] _ => id != "super"
  | _ => true
theorem base_of {o : Expr} {m : Str} {env : PySem.Env} (h : plainBase o = true) : attributeBase o m env (eval o env) = eval o env := by
  unfold plainBase at h
  split at h
  · rename_i id p pos
    unfold attributeBase
    simp [h]
  · rename_i hn
    unfold attributeBase
    split
    · rename_i id p pos
      exact absurd rfl (hn _ _ _)
    · rfl
section
variable {S : Sx} {c : Ck} {X : Cx} {B : Bs} {aT : TpA} {F F1 F2 : Addr → Prop} {H0 H H1 H2 : Hp} {s : Stt} {σ : L2.St} {t1 t2 : Tp} {D : Ends}
theorem own_iff {s : Stt} {i : Nat} {x : PyData} (h : Ev.own s i = some x) : flg s.fl i = true ∧ getV s.r i = some (.d x) := by
  unfold Ev.own at h
  split at h
  · rename_i e1 e2
    cases h
    refine ⟨?_, e2⟩
    unfold flg
    rw [List.getD_eq_getElem?_getD, e1]
    rfl
  · cases h
theorem s_app {i : Nat} {e : Ex} {x : Str} {y : Expr} {px apos cpos pos : Pos} (G : Good S c X) (hN : c.N[i]? = some x) (hv : visB c.sc x = true) (he : PE X y (tE S e)) (hst : notStar y = true) (hline : (apos.endLine == cpos.line) = true) :
    PS X (.Expr (.Call (.Attribute (.Name x px) "append" apos) [y] [] cpos) pos) (tS S (.app i e)) := by
  obtain ⟨h1, h2, h3⟩ := visB_of hv
  refine psOf (ps_expr (pe_bm (X := X) (T := "list") (id := "list.append") PySem.F.plainAttrs_list PySem.F.slot_list_append PySem.F.type_list_append mt_append (pe_var (i := i) (by rw [G.N]; exact hN) (by rw [G.sc]; exact h1) h2 h3) (pa_cons he pa_nil (star_of hst)) (base_of rfl) (few1 hst) hline (star_of hst) rfl) (sw_ok rfl)) fun D σ H h => ?_
  obtain ⟨B, aT, F, s, hst2, fr, h⟩ := h
  have h : OPost S B (match Ev.own s i with
    | some (.list _) => (ev S.M e s.r s.t).out s fun x t => match Ev.own { s with fl := fzx x e s.fl } i with
      | some (.list xs) => if xs.length < line then .nx ⟨setD s i (.list (xs ++ [x])), fzx x e s.fl, t⟩ else .bad
      | _ => .bad
    | _ => .bad) D := h
  split at h
  · rename_i xs0 ho
    obtain ⟨hf, hg⟩ := own_iff ho
    obtain ⟨v0, x0, hv0, hx0, a, ea, _, _, q⟩ := fr.rel.ownR hf
    rw [hg] at hv0
    cases hv0
    rcases q with ⟨us0, ds0, q1, q2, q3⟩ | ⟨_, _, q1, _, _⟩
    · cases q1
      subst ea
      refine ⟨.ref a, hx0, .inl ⟨rfl, us0, .inl (.inl q2)⟩, ?_⟩
      refine useE fr.rel ((OPost.out fr hst2 h).mono (fun x t1 h v H1 F1 g1 R1 V1 => ?_) fun _ _ _ k => k)
      split at h
      · rename_i xs hoo
        split at h
        · rename_i hl
          obtain ⟨F3, s3, w3, f3, pv⟩ := (fr.step g1 R1).prep (e := e) (m := false) (v := v) (x := x) (fun _ => V1) (fun z => by cases z)
          obtain ⟨hf3, hg3⟩ := own_iff hoo
          have hf3' : flg ({ s with fl := fzx x e s.fl, t := t1 } : Stt).fl i = true := hf3
          obtain ⟨v1, x1, hv1, hx1, a1, ea1, _, _, q⟩ := f3.rel.ownR hf3'
          rw [show getV ({ s with fl := fzx x e s.fl, t := t1 } : Stt).r i = some (.d (.list xs)) from hg3] at hv1
          cases hv1
          rw [hx0] at hx1
          cases hx1
          cases ea1
          rcases q with ⟨us, ds, q1, q2, q3⟩ | ⟨_, _, q1, _, _⟩
          · cases q1
            rcases pv with ⟨_, rp⟩ | ⟨z, _⟩
            · refine ⟨a, us, v, rfl, rfl, q2, by rw [← line_eq, q3.len]; exact hl, ?_⟩
              exact h aT F3 σ _ hst2 (f3.write (x := .list (xs ++ [x])) hf3' hx0 (.inl ⟨_, _, rfl, rfl, q3.app (.one rp)⟩))
            · cases z
          · cases q1
        · exact h.elim
      · exact h.elim
    · cases q1
  · exact h.elim
/-- the tape is written -/
theorem Fr.tape {a : Addr} {us us' : List V} {ts ts' : List PyData} (fr : Fr S B aT F s σ H) (ht : s.t = some ts) (ha : aT.a = some a) (hu : H a = some (.lst us)) (hr : RpA S.K H aT.f us' ts') : Fr S B aT F { s with t := some ts' } σ (upd H a (.lst us')) := by
  obtain ⟨b, xs, e1, e2, nF, e4, e5⟩ := fr.rel.tape ts ht
  rw [ha] at e1
  cases e1
  have hb : isBox (.lst us) := .inl ⟨_, rfl⟩
  have kF : Keep F H (upd H a (.lst us')) := keep_upd hu hb nF
  have kf : Keep aT.f H (upd H a (.lst us')) := keep_upd hu hb fun z => nF (e4 a z)
  have new0 : ∀ {b o}, B.H0 b = some o → B.a0.a ≠ some b → (∀ ps, o ≠ .tbl ps) → b ≠ a := fun {b o} h n tb e => by
    subst e
    rcases fr.tp with ⟨e, _⟩ | ⟨_, _, e⟩
    · rw [e] at ha; exact n ha
    · exact (e b ha).no h tb
  refine ⟨⟨⟨fun b hb => ?_, fun ts2 h2 => ?_, fun z => (by cases z), fun p hp => ?_⟩, fr.rel.len, fun j w hw => ?_, fr.rel.own, fr.rel.dis⟩, ⟨⟨fun b o h n tb => ?_⟩, fr.go.gr, fr.go.nw, fun b h => ?_⟩, fr.own, fr.tp, fr.lf, fr.kp.trans kF fr.kf, fr.kf⟩
  · rw [upd_ne fun z => by rw [z] at hb; exact nF hb]
    exact fr.rel.dom b hb
  · cases h2
    exact ⟨a, us', ha, upd_same, nF, e4, hr.keep kf fun _ z => z⟩
  · obtain ⟨ps, h1, h2, h3⟩ := fr.rel.tabs p hp
    refine ⟨ps, ?_, h2, fun pos cv hc => ?_⟩
    · rw [upd_ne fun z => by rw [z, hu] at h1; cases h1]
      exact h1
    · obtain ⟨c, q1, q2⟩ := h3 pos cv hc
      refine ⟨c, q1, ?_⟩
      rw [upd_ne fun z => by
        rw [z, hu] at q2
        unfold LamX.CodeO at q2
        cases q2]
      exact q2
  · obtain ⟨y, q1, q2⟩ := fr.rel.slot j w hw
    refine ⟨y, q1, ?_⟩
    unfold SltR at q2 ⊢
    by_cases hj : flg s.fl j = true
    · rw [if_pos hj] at q2 ⊢
      obtain ⟨b, eb, nb, nbT, q⟩ := q2
      subst eb
      have hne : b ≠ a := fun z => nbT (by rw [ha, z])
      refine ⟨b, rfl, nb, nbT, ?_⟩
      rcases q with ⟨xs, ds, q1, q2, q3⟩ | ⟨xs, ds, q1, q2, q3⟩
      · exact .inl ⟨xs, ds, q1, by rw [upd_ne hne]; exact q2, q3.keep kF fun _ z => z⟩
      · exact .inr ⟨xs, ds, q1, by rw [upd_ne hne]; exact q2, q3.keep kF fun _ z => z⟩
    · rw [if_neg hj] at q2 ⊢
      cases w with
      | d y => exact Rp.keep q2 kF fun _ z => z
      | scr ns =>
        obtain ⟨b, q1, q2⟩ := q2
        exact ⟨b, q1, q2.keep kF fun _ z => z⟩
      | lam b0 q0 =>
        obtain ⟨lm, l1, l2, l3, l4, l5⟩ := q2
        exact ⟨lm, l1, l2, l3, kF.e _ _ l4, l5.keep kF fun _ z => z⟩
      | _ => exact q2
  · rw [upd_ne (new0 h n tb)]
    exact fr.go.nx.k b o h n tb
  · by_cases z : b = a
    · subst z
      exact (h.no upd_same fun _ z => by cases z).elim
    · exact fr.go.no b fun u e => h u (by rw [upd_ne z]; exact e)
def notSlice : Expr → Bool
  | .Slice .. => false
  | _ => true
theorem plain_of {e : Expr} (h : notSlice e = true) : PlainIx e := by
  intro o i
  cases e <;> first | rfl | cases h
theorem sub_asg {o i : Expr} {pos : Pos} {env : PySem.Env} (h : notSlice i = true) : ∀ v, assign (.Subscript o i pos) env v = (do
      let ov ← holding [v] (eval o env)
      let iv ← holding [v, ov] (eval i env)
      standAt pos
      holding [v, ov, iv] (setItem ov iv v)
      release [v, ov, iv] []) := by
  intro v
  cases i <;> first | rfl | cases h
theorem sw_sub {o i e : Expr} {p : Pos} {l : Nat} {env : PySem.Env} : swapsWithSole [.Subscript o i p] e l env = pure false := by
  cases e <;> rfl
theorem ss_sub {o i e : Expr} {p : Pos} {env : PySem.Env} : swappedStores [.Subscript o i p] e env = pure none := by
  cases e <;> rfl
theorem s_tst {i : Nat} {k e : Ex} {x : Str} {y z : Expr} {px p pos : Pos} (G : Good S c X) (hN : c.N[i]? = some x) (hv : visB c.sc x = true) (he : PE X y (tE S e)) (hk : PE X z (tE S k)) (hz : notSlice z = true) : PS X (.Assign [.Subscript (.Name x px) z p] y pos) (tS S (.tst i k e)) := by
  obtain ⟨h1, h2, h3⟩ := visB_of hv
  refine psOf (ps_asg he (pg_sub (pe_var (i := i) (by rw [G.N]; exact hN) (by rw [G.sc]; exact h1) h2 h3) hk set_list (sub_asg hz)) sw_sub ss_sub (by rw [asg_of rfl]; rfl)) fun D σ H h => ?_
  obtain ⟨B, aT, F, s, hst, fr, h⟩ := h
  have h : OPost S B ((ev S.M e s.r s.t).out s fun x t => match getV s.r i with
    | some .tp => (ev S.M k s.r t).out s fun y t => match t with
      | some ts => if isCont x = true then .bad else match stoD (.list ts) y x with
        | some (.list ts) => .nx { s with t := some ts }
        | _ => .bad
      | none => .bad
    | _ => .bad) D := h
  refine useE fr.rel ((OPost.out fr hst h).mono (fun x t1 h v H1 F1 g1 R1 V1 => ?_) fun _ _ _ k => k)
  split at h
  · rename_i hg
    obtain ⟨a, hs, ha⟩ := tp_slot R1 hg
    refine ⟨.ref a, hs, ?_⟩
    have fr1 := fr.step g1 R1
    have h := OPost.out (s := { s with t := t1 }) fr1 hst (D := D) (q := ev S.M k s.r t1) (f := fun y t => match t with
      | some ts => if isCont x = true then .bad else match stoD (.list ts) y x with
        | some (.list ts) => .nx { s with t := some ts }
        | _ => .bad
      | none => .bad) (by
      revert h
      cases ev S.M k s.r t1 <;> exact id)
    refine useE R1 (h.mono (fun y t2 h w H2 F2 g2 R2 V2 => ?_) fun _ _ _ k => k)
    cases t2 with
    | none => exact h.elim
    | some ts =>
      dsimp only at h
      split at h
      · exact h.elim
      · rename_i hcx
        cases y with
        | int j =>
          cases hst2 : stoD (.list ts) (.int j) x with
          | none => rw [hst2] at h; exact h.elim
          | some zz =>
            rw [hst2] at h
            have hz2 : ((ixN ts.length j).map fun m => PyData.list (ts.set m x)) = some zz := hst2
            obtain ⟨m, hm, rfl⟩ := Option.map_eq_some_iff.mp hz2
            have h : OPost S B (.nx { s with t := some (ts.set m x) }) D := h
            obtain ⟨b, us, q1, q2, q3, q4, q5⟩ := R2.tape ts rfl
            rw [ha] at q1
            cases q1
            cases V2
            have fr2 := fr1.step g2 R2
            have hxf : flatD x = true := by cases x <;> first | rfl | (exact absurd rfl hcx)
            refine ⟨a, us, j, m, rfl, rfl, q2, by rw [q5.len]; exact hm, ?_⟩
            exact h aT F2 σ _ hst (fr2.tape (ts := ts) rfl ha q2 (q5.set (rp_flat hxf V1) m))
        | _ => exact h.elim
  · exact h.elim
/-- for p in it -/
theorem s_for {p : Pa} {it : Ex} {b : Ev.St} {tg iter : Expr} {body : List Stmt} {pos : Pos} (G : Good S c X) (hc : c.calm = true) (ht : c.top = true) (hi : PI X tg iter (tI S it)) (hp : chkP c p tg = true) (hb : PSs X body (tS S b)) (hs : ∀ x, foldedSetIterable iter X.env x = pure x) : PS X (.For tg iter body [] pos) (tS S (.forr p it b)) :=
  psOf (ps_for (G.po ht) (G.calm hc) hi (g_pa G hc p tg hp) hb hs) fun D σ H h => by
    obtain ⟨B, aT, F, s, hst, fr, h⟩ := h
    have h : OPost S B (((ev S.M it s.r s.t).bind fun x t => lift (walkD x) t).out s fun xs t => evFor p (evS S.M b) xs ⟨s.r, fz s.fl (retE it), t⟩) D := h
    refine ⟨aT, F, _, s.r, s.t, hst, fr.rel, (OPost.out fr hst h).mono (fun xs t1 h J H1 F1 g1 R1 wk => ?_) fun _ _ _ k => k⟩
    have f1 := (fr.step g1 R1).frz (retE it)
    refine for_it wk (fun i σ' H' => ∃ aT' F' s', aT'.s = S.s ∧ Fr S B aT' F' s' σ' H' ∧ Keep (fun a => F1 a ∨ OA (flg s.fl) σ (retE it) a) H1 H' ∧ (∀ a, (F1 a ∨ OA (flg s.fl) σ (retE it) a) → F' a) ∧ OPost S B (evFor p (evS S.M b) (xs.drop i) s') D) ?_ ?_ ?_ ?_
    · exact ⟨aT, _, _, hst, f1, .refl, fun _ z => z, h⟩
    · rintro i σ' H' hi ⟨_, _, _, _, _, k, _⟩
      exact k
    · rintro i x σ' H2 H3 hi ⟨aT', F', s', hst', fr', k, sub, h⟩ ⟨ext, d, hd, rd⟩
      obtain ⟨hlt, hd2⟩ := List.getElem?_eq_some_iff.mp hd
      rw [List.drop_eq_getElem_cons hlt, hd2] at h
      have h : OPost S B (match asg p d s'.r with
        | none => .bad
        | some r => match evS S.M b ⟨r, fz s'.fl (slotsP p), s'.t⟩ with
          | .nx s => evFor p (evS S.M b) (xs.drop (i + 1)) s
          | o => o) D := h
      cases ha : asg p d s'.r with
      | none => rw [ha] at h; exact h.elim
      | some r' =>
        rw [ha] at h
        have fr3 := fr'.step (Go.ext ext) (fr'.rel.ext ext)
        refine ⟨F', d, s'.r, r', fr'.rel.len, rd.mono sub, ha, fun σ2 as => ?_⟩
        have fr4 : Fr S B aT' F' ⟨r', fz s'.fl (slotsP p), s'.t⟩ σ2 H3 := fr3.asg as
        let B2 : Bs := { B with Fk := F', Hk := H3 }
        have fr5 : Fr S B2 aT' F' ⟨r', fz s'.fl (slotsP p), s'.t⟩ σ2 H3 := ⟨fr4.rel, fr4.go, fr4.own, fr4.tp, fr4.lf, .refl, fun _ z => z⟩
        refine ⟨B2, aT', F', _, hst', fr5, ?_⟩
        have h : OPost S B (match evS S.M b ⟨r', fz s'.fl (slotsP p), s'.t⟩ with
          | .nx s => evFor p (evS S.M b) (xs.drop (i + 1)) s
          | o => o) D := h
        have back : ∀ {aT6 F6 s6 σ6 H6}, Fr S B2 aT6 F6 s6 σ6 H6 → Fr S B aT6 F6 s6 σ6 H6 := fun f6 => ⟨f6.rel, f6.go, f6.own, f6.tp, f6.lf, (fr3.kp.trans f6.kp fr3.kf), fun a z => f6.kf a (fr3.kf a z)⟩
        cases hb2 : evS S.M b ⟨r', fz s'.fl (slotsP p), s'.t⟩ with
        | nx s6 =>
          rw [hb2] at h
          exact fun aT6 F6 σ6 H6 h6 f6 => ⟨aT6, F6, s6, h6, back f6, (k.trans (keep_all ext) fun _ z => z).trans f6.kp sub, fun a z => f6.kf a (sub a z), h⟩
        | rt x6 m6 t6 => rw [hb2] at h; exact h
        | ex c6 p6 s6 =>
          rw [hb2] at h
          exact fun aT6 F6 σ6 H6 cls d6 h6 f6 e6 => h aT6 F6 σ6 H6 cls d6 h6 (back f6) e6
        | bad => rw [hb2] at h; exact h
    · rintro σ' H' ⟨aT', F', s', hst', fr', _, _, h⟩
      rw [List.drop_length] at h
      exact h aT' F' σ' H' hst' fr'
/-- x += y, x -= y -/
theorem s_aug {i : Nat} {o : BOp} {e : Ex} {x : Str} {y : Expr} {op : Operator} {f : Int → Int → Int} {p pos : Pos} (G : Good S c X) (hN : c.N[i]? = some x) (hl : locB c x = true) (he : PE X y (tE S e)) (hop : PIp X op (ipI f)) (hf : ∀ a b, augD o a b = some (f a b)) : PS X (.AugAssign (.Name x p) op y pos) (tS S (.aug i o e)) := by
  obtain ⟨h1, h2⟩ := loc_of G hl
  refine psOf (ps_aug G.nd (by rw [G.N]; exact hN) h1 he hop h2) fun D σ H h => ?_
  obtain ⟨B, aT, F, s, hst, fr, h⟩ := h
  have h : OPost S B (match getV s.r i with
    | some (.d (.int a)) => (ev S.M e s.r s.t).out s fun y t => match y with
      | .int b => (match augD o a b with
        | some z => .nx ⟨setD s i (.int z), (fzx (.int z) e s.fl).set i false, t⟩
        | none => .bad)
      | _ => .bad
    | _ => .bad) D := h
  cases hg : getV s.r i with
  | none => rw [hg] at h; exact h.elim
  | some v =>
    cases v with
    | d x =>
      cases x with
      | int a =>
        rw [hg] at h
        dsimp only at h
        obtain ⟨u, hu, rp⟩ := fr.rel.rd hg
        cases rp
        refine ⟨_, hu, ⟨aT, F, _, s.r, s.t, hst, fr.rel, (OPost.out fr hst h).mono (fun y t1 h v H1 F1 g1 R1 V1 => ?_) fun _ _ _ k => k⟩⟩
        cases y with
        | int b =>
          dsimp only at h
          rw [hf a b] at h
          rcases V1 with ⟨_, V1⟩ | ⟨_, a1, _, _, _, V1⟩
          · cases V1
            obtain ⟨F2, f2⟩ := fr.set (i := i) (e := e) (m := false) (v := .int (f a b)) (x := .int (f a b)) g1 R1 (.inl ⟨rfl, .int _⟩)
            exact ⟨a, b, rfl, rfl, h aT F2 _ H1 hst f2⟩
          · rcases V1 with ⟨xs, ds, z, _⟩ | ⟨xs, ds, z, _⟩ <;> cases z
        | _ => exact h.elim
      | _ => rw [hg] at h; exact h.elim
    | _ => rw [hg] at h; exact h.elim
end
end Ev

set_option Elab.async false
set_option autoImplicit false
set_option linter.all false
set_option maxRecDepth 100000
set_option maxHeartbeats 1000000
/-! Errors, the lambda's try, calls as values. -/
namespace Ev
open PySem PySem.Spec PyProof.Rows L2
theorem pmk_own0 {X : Cx} {x : Str} {C : Addr} {bmB : List Value} {Bn newId initId : String} {p pos : Pos} (F : ExcBaseFacts Bn newId initId bmB) (q : PySem.W.excIn X.K C bmB newId = true) (gC : X.mg x = some (.ref C)) (kC : PySem.W.keepIn X.K (.ref C) = true) (r : Raises X (.ref C)) (hg : Gl X x)
    (hdb : (x == ("__debug__" : Str)) = false) : PMk X (.Call (.Name x p) [] [] pos) (fun _ H Q => Q (.ref C) none H) := by
  intro pins s σ H Q I h
  refine wpAny_Call_Name_kw (ld_glob I hg gC ?_ hdb)
  refine PySem.W.callWith_K0 I.kIn kC ?_
  show wpAny _ _ (PySem.call (.ref C) []) _ _ _
  obtain ⟨bm, N, nm, qn, bs, hdct, sn, sub, ab, col, dd, k0, k1, k2, k3, k5, mN, hC, hN, hni, T⟩ := exc_obj I.kIn q
  refine wpAny_call_exc_subT F T hC hN hni (fun h' e hm => ?_) (Nat.zero_le _)
  exact mk_of I hm r h (I.hok.gone hm.new)
section
variable {S : Sx} {c : Ck} {X : Cx} {B : Bs} {aT : TpA} {F F1 F2 : Addr → Prop} {H0 H H1 H2 : Hp} {s : Stt} {σ : L2.St} {t1 t2 : Tp} {D : Ends}
theorem s_rai {k : Nat} {x : Str} {p cpos pos : Pos} (G : Good S c X) (hc : c.calm = true) (hk : S.T.exs[k]? = some x) (hg : glB c.sc x = true) : PS X (.Raise (some (.Call (.Name x p) [] [] cpos)) none pos) (tS S (.rai k .nil)) := by
  obtain ⟨C, hm, EO⟩ := G.ex k x hk
  have hK := G.K
  refine psOf (ps_raise (G.calm hc) G.tk (pmk_own0 PySem.F.excBase_ValueError (by rw [hK]; exact EO.q) (by rw [G.mg]; exact hm) (by rw [hK]; exact EO.kp) (raises_own (by rw [hK]; exact EO.sb) (by rw [hK]; exact EO.ty)) (gl_of G hg) (glB_of hg).2)) fun D σ H h => ?_
  obtain ⟨B, aT, F, s, hst, fr, h⟩ := h
  exact h aT F σ H (.ref C) none hst fr ⟨x, C, hk, hm, rfl, rfl, rfl⟩
def Sx.sui (S : Sx) (a : Addr) (k : Nat) : Sx := { S with W := fun _ _ _ _ => False, s := { S.s with xc := some (a, k) } }
def Ck.suite (c : Ck) : Ck := { c with calm := false, gd := false, top := false, sui := true, lam := false, lmn := none }
/-- an except suite -/
theorem Good.suite (G : Good S c X) (a : Addr) (k : Nat) (x : Str) (C : Addr) (pn : List (Addr × Obj)) (hk : S.T.exs[k]? = some x) (hm : S.mg x = some (.ref C)) (hi : CallR (X.suite a pn) (.builtin "isinstance") (rIsE X.K C a)) : Good (S.sui a k) c.suite (X.suite a pn) where
  T := G.T
  K := G.K
  mg := G.mg
  sc := G.sc
  N := G.N
  nd := G.nd
  hu := G.hu
  calm := fun h => absurd (show false = true from h) Bool.false_ne_true
  gd := fun h => absurd (show false = true from h) Bool.false_ne_true
  tk := LamX.takes0
  gl := G.gl
  gt := G.gt
  fr := G.fr
  mm := G.mm
  rm := fun h => absurd (show false = true from h) Bool.false_ne_true
  cl := fun l f x ps g h0 h1 h2 => ⟨(G.cl l f x ps g h0 h1 h2).ex⟩
  lw := fun l f x h0 h1 => ⟨(G.lw l f x h0 h1).run⟩
  ex := G.ex
  ek := G.ek
  ev := G.ev
  ec := G.ec
  xn := fun h => absurd (show true = false from h) (by decide)
  xs := fun b l h => by
    have h : some (a, k) = some (b, l) := h
    cases h
    exact ⟨x, C, hk, hm, hi⟩
  ac := fun a h => nomatch (show (none : Option Str) = some a from h)
  ln := fun h => absurd (show false = true from h) Bool.false_ne_true
  fn := G.fn
  po := fun h => absurd (show false = true from h) Bool.false_ne_true
  tp := fun h => absurd (show false = true from h) Bool.false_ne_true
  lm := fun h => absurd (show false = true from h) Bool.false_ne_true
theorem getV_rep {n i : Nat} : getV (List.replicate n none) i = none := by
  unfold getV
  rw [List.getElem?_replicate]
  by_cases h : i < n
  · rw [if_pos h]
  · rw [if_neg h]
theorem flg_rep {n i : Nat} : flg (List.replicate n false) i = false := by
  unfold flg
  rw [List.getD_eq_getElem?_getD, List.getElem?_replicate]
  by_cases h : i < n
  · rw [if_pos h]; rfl
  · rw [if_neg h]; rfl
theorem getV_unexc {r : Env} {i : Nat} {v : Vl} (h : getV (unexc r) i = some v) : getV r i = some v ∧ ∀ c p, v ≠ .exc c p := by
  unfold getV unexc at h
  rw [List.getElem?_map] at h
  cases hr : r[i]? with
  | none => rw [hr] at h; cases h
  | some o =>
    rw [hr] at h
    unfold getV
    rw [hr]
    cases o with
    | none => cases h
    | some w =>
      cases w with
      | exc c p => cases h
      | _ => cases h; exact ⟨rfl, fun _ _ z => by cases z⟩
theorem unexc_get {r : Env} {i : Nat} {x : PyData} (h : getV r i = some (.d x)) : getV (unexc r) i = some (.d x) := by
  unfold getV at h ⊢
  unfold unexc
  rw [List.getElem?_map]
  cases hr : r[i]? with
  | none => rw [hr] at h; cases h
  | some o =>
    rw [hr] at h
    cases o with
    | none => cases h
    | some w => cases h; rfl
/-- try: the lambda, except .. as e: .. -/
theorem s_tryl {i : Nat} {h : Ev.St} {a x n : Str} {b0 : Stmt} {suite : List Stmt} {p1 p2 p3 np pos' pos : Pos} (G : Good S c X) (hc : c.calm = true) (ht : c.top = true) (hsu : c.sui = false) (ha : c.lmn = some a) (hx : S.T.exs[0]? = some x) (hgx : glB c.sc x = true) (hN : c.N[i]? = some n) (hl : c.sc.names.lookup n = some .local)
    (hs : ∀ S' X', Good S' c.suite X' → S'.M = S.M → S'.stp = S.stp → PSs X' (b0 :: suite) (tS S' h)) : PS X (.Try [.Expr (.Call (.Name a p1) [] [] p2) p3] [.ExceptHandler (some (.Name x np)) (some n) (b0 :: suite) pos'] [] [] pos) (tS S (.tryl i h)) := by
  obtain ⟨lm, hlm, ea, LO⟩ := G.ac a ha
  subst ea
  obtain ⟨C0, hm0, EO0⟩ := G.ex 0 x hx
  obtain ⟨q1, q2⟩ := G.tp ht
  have hln : X.env.kindOf n = some .local := by unfold Env.kindOf; rw [G.sc]; exact hl
  have nm : Names X x (.ref C0) := ⟨gl_of G hgx, (glB_of hgx).2, .inl (by rw [G.mg]; exact hm0)⟩
  have base := ps_try_as (X := X) (pos := pos) (pos' := pos') (np := np) (Wout := S.W) (b₀ := b0) (suite := suite) (body := [.Expr (.Call (.Name lm.a p1) [] [] p2) p3])
    (tb := fun W D σ H => ∃ E : XK, (∀ cls d σ' H', E cls d H' → σ'.length = σ.length → W cls d σ' H') ∧ σ[0]? = some (some (.ref lm.f)) ∧ H lm.c = some (LamX.CodeO lm.c lm.q) ∧ tAct S lm E H fun _ H1 => D.nx σ H1)
    (ts := fun a cls d D σ H => ∃ k x C, S.T.exs[k]? = some x ∧ S.mg x = some (.ref C) ∧ cls = .ref C ∧ d = none ∧ tS (S.sui a k) h D σ H)
    q1 q2 G.nd (by rw [G.N]; exact hN) hln nm G.tk
    (fun W pn xe tk _ => ⟨fun pins s σ H D I ⟨E, hW, h0, hco, hact⟩ => by
      have tk' : Takes (X.tr pn xe) (fun cls d σ' H' => σ'.length = σ.length → W cls d σ' H') := fun u s' ⟨a, B, sI, pins', σ', H', cls, d, e, I', nb, up, sky, na, os, ag, w⟩ =>
        tk u s' ⟨a, B, sI, pins', σ', H', cls, d, e, I', nb, up, sky, na, os, ag, w (I'.len.trans I.len.symm)⟩
      exact (pss_one (ps_expr (pos := p3) (LO.act _ pn xe E p1 p2 tk' hW) (sw_ok rfl))).run pins s σ H D I ⟨h0, hco, hact⟩⟩)
    (fun a oe cls d pn hz hf => ⟨fun pins s σ H D I ⟨k, x, C, h1, h2, h3, h4, h5⟩ => by
      subst h3 h4
      obtain ⟨C', m1, EO⟩ := G.ex k x h1
      rw [h2] at m1
      cases m1
      exact (hs _ _ (G.suite a k x C _ h1 h2 (call_isE (by rw [G.K]; exact EO.is) hz hf)) rfl rfl).run pins s σ H D I h5⟩)
  refine psOf base fun D σ H hh => ?_
  obtain ⟨B, aT, F, s, hst, fr, hh⟩ := hh
  have hh : OPost S B (match (match getV s.r 0 with | some (.lam b q) => S.M.act b (q.map fun (o : Option PyData) => o.map Vl.d) s.t | _ => .bad) with
    | .ok _ t => .nx { s with t := t }
    | .exc c p t => (match evS S.M h ⟨(List.replicate s.r.length none).set i (some (.exc c p)), List.replicate s.r.length false, t⟩ with
      | .nx s' => .nx ⟨(unexc s'.r).set i none, s'.fl.set i false, s'.t⟩
      | _ => .bad)
    | .bad => .bad) D := hh
  cases hg : getV s.r 0 with
  | none => rw [hg] at hh; exact hh.elim
  | some v =>
    cases v with
    | lam b q =>
      rw [hg] at hh
      dsimp only at hh
      obtain ⟨x0, hx0, qs⟩ := fr.rel.slot 0 _ hg
      unfold SltR at qs
      have nf : ¬ flg s.fl 0 = true := fun z => by
        rw [if_pos z] at qs
        obtain ⟨_, _, _, _, z⟩ := qs
        rcases z with ⟨_, _, z, _⟩ | ⟨_, _, z, _⟩ <;> cases z
      rw [if_neg nf] at qs
      obtain ⟨lm', l1, l2, l3, l4, l5⟩ := qs
      rw [hst, hlm] at l1
      cases l1
      subst l2 l3
      refine ⟨fun cls d H' => ∀ σ', σ'.length = σ.length → wAs X.K (.ref C0) i (fun a cls d D σ H => ∃ k x C, S.T.exs[k]? = some x ∧ S.mg x = some (.ref C) ∧ cls = .ref C ∧ d = none ∧ tS (S.sui a k) h D σ H) S.W D cls d σ' H', fun cls d σ' H' hE hl => hE σ' hl, hx0, l4, ?_⟩
      have RL : Rel S.K { aT with s := S.s.base } F (fun _ => false) (q.map fun (o : Option PyData) => o.map Vl.d) s.t lm.σ H := by
        refine ⟨⟨fr.rel.dom, fr.rel.tape, fr.rel.none, ?_⟩, by rw [List.length_map]; exact l5.len, fun j w hw => ?_, fun j z => (by cases z), fun j k a z => (by cases z)⟩
        · show LamX.Tabs S.s.tb H
          rw [← hst]
          exact fr.rel.tabs
        · unfold getV at hw
          rw [List.getElem?_map] at hw
          cases hq : q[j]? with
          | none => rw [hq] at hw; cases hw
          | some o =>
            rw [hq] at hw
            cases o with
            | none => cases hw
            | some y =>
              cases hw
              obtain ⟨u, u1, u2⟩ := l5.slot j y hq
              exact ⟨u, u1, u2⟩
      refine ⟨_, F, _, s.t, rfl, RL, ?_⟩
      cases hact : S.M.act lm.b (q.map fun (o : Option PyData) => o.map Vl.d) s.t with
      | bad => rw [hact] at hh; exact hh.elim
      | ok y t' =>
        rw [hact] at hh
        intro v H' F1 g RL' _
        have g' : Go aT F H F1 H' := ⟨⟨g.nx.k⟩, g.gr, g.nw, g.no⟩
        have T' : TR S.K aT F1 t' H' := ⟨RL'.dom, RL'.tape, RL'.none, by rw [hst]; exact RL'.tabs⟩
        exact hh aT F1 σ H' hst (fr.step g' (fr.rel.after g' T'))
      | exc ce pe t' =>
        rw [hact] at hh
        intro cls d H' F1 g RL' er σ' hσ'
        obtain ⟨xe, Ce, e1, e2, e3, e4, e5⟩ := er
        subst e3 e5
        refine ⟨true, by rw [G.K]; exact G.ec ce x xe C0 Ce hx e1 hm0 e2, fun _ a na => ⟨ce, xe, Ce, e1, e2, rfl, rfl, ?_⟩, fun z => by cases z⟩
        have g' : Go aT F H F1 H' := ⟨⟨g.nx.k⟩, g.gr, g.nw, g.no⟩
        have T' : TR S.K aT F1 t' H' := ⟨RL'.dom, RL'.tape, RL'.none, by rw [hst]; exact RL'.tabs⟩
        have lenr : σ'.length = s.r.length := hσ'.trans fr.rel.len
        have frS : Fr (S.sui a ce) B { aT with s := (S.sui a ce).s } F1 ⟨(List.replicate s.r.length none).set i (some (.exc ce pe)), List.replicate s.r.length false, t'⟩ (σ'.set i (some (.ref a))) H' := by
          refine ⟨⟨⟨T'.dom, T'.tape, T'.none, by show LamX.Tabs S.s.tb H'; rw [← hst]; exact T'.tabs⟩, by simp [lenr], fun j w hw => ?_, fun j z => ?_, fun j k b z => ?_⟩, fr.over g', fun j b z => ?_, fr.tp, by simp, fr.kp.trans (fr.rel.keepF g'.nx) fr.kf, fun b z => g'.gr b (fr.kf b z)⟩
          · have hw : getV ((List.replicate s.r.length none).set i (some (.exc ce pe))) j = some w := hw
            rw [getV_set] at hw
            by_cases hij : i = j ∧ i < (List.replicate s.r.length (none : Option Vl)).length
            · rw [if_pos hij] at hw
              cases hw
              obtain ⟨e1, e2⟩ := hij
              subst e1
              rw [List.length_replicate] at e2
              refine ⟨.ref a, by rw [List.getElem?_set_self (by omega)], ?_⟩
              unfold SltR
              rw [if_neg (by show ¬ flg (List.replicate s.r.length false) i = true; rw [flg_rep]; exact Bool.false_ne_true)]
              exact ⟨a, rfl, rfl⟩
            · rw [if_neg hij, getV_rep] at hw
              cases hw
          · have z : flg (List.replicate s.r.length false) j = true := z
            rw [flg_rep] at z
            cases z
          · have z : flg (List.replicate s.r.length false) j = true := z
            rw [flg_rep] at z
            cases z
          · have z : flg (List.replicate s.r.length false) j = true := z
            rw [flg_rep] at z
            cases z
        refine ⟨B, _, F1, _, rfl, frS, ?_⟩
        show OPost (S.sui a ce) B (evS S.M h _) _
        dsimp only at hh
        cases hev : evS S.M h ⟨(List.replicate s.r.length none).set i (some (.exc ce pe)), List.replicate s.r.length false, t'⟩ with
        | nx s3 =>
          rw [hev] at hh
          intro aT3 F3 σ3 H3 h3 f3
          refine hh { aT3 with s := S.s } F3 (σ3.set i none) H3 rfl ?_
          have tb3 : aT3.s.tb = S.s.tb := by rw [h3]; rfl
          have lm3 : aT3.s.lm = S.s.lm := by rw [h3]; rfl
          have fne : ∀ {j}, flg (s3.fl.set i false) j = true → i ≠ j ∧ flg s3.fl j = true := fun {j} z => by
            rw [flg_set] at z
            by_cases hij : i = j ∧ i < s3.fl.length
            · rw [if_pos hij] at z; cases z
            · rw [if_neg hij] at z
              refine ⟨fun e => ?_, z⟩
              subst e
              have hl : ¬ i < s3.fl.length := fun z => hij ⟨rfl, z⟩
              unfold flg at z
              rw [List.getD_eq_getElem?_getD, List.getElem?_eq_none (by omega)] at z
              cases z
          refine ⟨⟨⟨f3.rel.dom, f3.rel.tape, f3.rel.none, by show LamX.Tabs S.s.tb H3; rw [← tb3]; exact f3.rel.tabs⟩, by simp [unexc, f3.rel.len], fun j w hw => ?_, fun j z => ?_, fun j k b z1 z2 z3 z4 => ?_⟩, f3.go, fun j b z1 z2 => ?_, f3.tp, by simp [unexc, f3.lf], f3.kp, f3.kf⟩
          · have hw : getV ((unexc s3.r).set i none) j = some w := hw
            rw [getV_set] at hw
            by_cases hij : i = j ∧ i < (unexc s3.r).length
            · rw [if_pos hij] at hw; cases hw
            · rw [if_neg hij] at hw
              obtain ⟨w1, w2⟩ := getV_unexc hw
              obtain ⟨y, y1, y2⟩ := f3.rel.slot j w w1
              have hne : i ≠ j := fun e => by
                subst e
                have hl : ¬ i < (unexc s3.r).length := fun z => hij ⟨rfl, z⟩
                have hl2 : (unexc s3.r).length = s3.r.length := by simp [unexc]
                unfold getV at w1
                rw [List.getElem?_eq_none (by omega)] at w1
                cases w1
              refine ⟨y, by rw [List.getElem?_set_ne hne]; exact y1, ?_⟩
              have fe : flg (s3.fl.set i false) j = flg s3.fl j := by rw [flg_set, if_neg fun z => hne z.1]
              show SltR S.K _ F3 H3 (flg (s3.fl.set i false) j) y w
              rw [fe]
              unfold SltR at y2 ⊢
              by_cases hf : flg s3.fl j = true
              · rw [if_pos hf] at y2 ⊢
                exact y2
              · rw [if_neg hf] at y2 ⊢
                cases w with
                | exc k p => exact absurd rfl (w2 k p)
                | lam b0 q0 =>
                  obtain ⟨m, m1, m2⟩ := y2
                  exact ⟨m, by rw [← lm3]; exact m1, m2⟩
                | _ => exact y2
          · obtain ⟨z1, z2⟩ := fne z
            obtain ⟨w, y, hw, hy, ow⟩ := f3.rel.ownR z2
            have : ∃ x, w = .d x := by
              obtain ⟨_, _, _, _, q⟩ := ow
              rcases q with ⟨_, _, e, _⟩ | ⟨_, _, e, _⟩ <;> exact ⟨_, e⟩
            obtain ⟨x, rfl⟩ := this
            refine ⟨.d x, ?_⟩
            show getV ((unexc s3.r).set i none) j = _
            rw [getV_set, if_neg fun z => z1 z.1]
            exact unexc_get hw
          · obtain ⟨n1, m1⟩ := fne z1
            obtain ⟨n2, m2⟩ := fne z2
            rw [List.getElem?_set_ne n1] at z3
            rw [List.getElem?_set_ne n2] at z4
            exact f3.rel.dis j k b m1 m2 z3 z4
          · obtain ⟨n1, m1⟩ := fne z1
            rw [List.getElem?_set_ne n1] at z2
            exact f3.own j b m1 z2
        | rt x m t => rw [hev] at hh; exact hh.elim
        | ex k p s3 => rw [hev] at hh; exact hh.elim
        | bad => rw [hev] at hh; exact hh.elim
    | _ => rw [hg] at hh; exact hh.elim
/-- .. the value kept -/
theorem s_trya {i j0 : Nat} {nj : Str} {pj : Pos} {h : Ev.St} {a x n : Str} {b0 : Stmt} {suite : List Stmt} {p1 p2 p3 np pos' pos : Pos} (G : Good S c X) (hc : c.calm = true) (ht : c.top = true) (hsu : c.sui = false) (ha : c.lmn = some a) (hx : S.T.exs[0]? = some x) (hgx : glB c.sc x = true) (hNj : c.N[j0]? = some nj) (hlj : locB c nj = true) (hN : c.N[i]? = some n) (hl : c.sc.names.lookup n = some .local)
    (hs : ∀ S' X', Good S' c.suite X' → S'.M = S.M → S'.stp = S.stp → PSs X' (b0 :: suite) (tS S' h)) : PS X (.Try [.Assign [.Name nj pj] (.Call (.Name a p1) [] [] p2) p3] [.ExceptHandler (some (.Name x np)) (some n) (b0 :: suite) pos'] [] [] pos) (tS S (.trya j0 i h)) := by
  obtain ⟨lm, hlm, ea, LO⟩ := G.ac a ha
  subst ea
  obtain ⟨C0, hm0, EO0⟩ := G.ex 0 x hx
  obtain ⟨q1, q2⟩ := G.tp ht
  have hln : X.env.kindOf n = some .local := by unfold Env.kindOf; rw [G.sc]; exact hl
  have nm : Names X x (.ref C0) := ⟨gl_of G hgx, (glB_of hgx).2, .inl (by rw [G.mg]; exact hm0)⟩
  have base := ps_try_as (X := X) (pos := pos) (pos' := pos') (np := np) (Wout := S.W) (b₀ := b0) (suite := suite) (body := [.Assign [.Name nj pj] (.Call (.Name lm.a p1) [] [] p2) p3])
    (tb := fun W D σ H => ∃ E : XK, (∀ cls d σ' H', E cls d H' → σ'.length = σ.length → W cls d σ' H') ∧ σ[0]? = some (some (.ref lm.f)) ∧ H lm.c = some (LamX.CodeO lm.c lm.q) ∧ tAct S lm E H fun v H1 => D.nx (σ.set j0 (some v)) H1)
    (ts := fun a cls d D σ H => ∃ k x C, S.T.exs[k]? = some x ∧ S.mg x = some (.ref C) ∧ cls = .ref C ∧ d = none ∧ tS (S.sui a k) h D σ H)
    q1 q2 G.nd (by rw [G.N]; exact hN) hln nm G.tk
    (fun W pn xe tk _ => ⟨fun pins s σ H D I ⟨E, hW, h0, hco, hact⟩ => by
      have tk' : Takes (X.tr pn xe) (fun cls d σ' H' => σ'.length = σ.length → W cls d σ' H') := fun u s' ⟨a, B, sI, pins', σ', H', cls, d, e, I', nb, up, sky, na, os, ag, w⟩ =>
        tk u s' ⟨a, B, sI, pins', σ', H', cls, d, e, I', nb, up, sky, na, os, ag, w (I'.len.trans I.len.symm)⟩
      obtain ⟨l1, l2⟩ := loc_of G hlj
      exact (pss_one (ps_set (X := X.tr pn xe) (pos := p3) G.nd (by show X.N[j0]? = some nj; rw [G.N]; exact hNj) l1 (LO.act _ pn xe E p1 p2 tk' hW) (sw_ok rfl) l2)).run pins s σ H D I ⟨h0, hco, hact⟩⟩)
    (fun a oe cls d pn hz hf => ⟨fun pins s σ H D I ⟨k, x, C, h1, h2, h3, h4, h5⟩ => by
      subst h3 h4
      obtain ⟨C', m1, EO⟩ := G.ex k x h1
      rw [h2] at m1
      cases m1
      exact (hs _ _ (G.suite a k x C _ h1 h2 (call_isE (by rw [G.K]; exact EO.is) hz hf)) rfl rfl).run pins s σ H D I h5⟩)
  refine psOf base fun D σ H hh => ?_
  obtain ⟨B, aT, F, s, hst, fr, hh⟩ := hh
  have hh : OPost S B (match (match getV s.r 0 with | some (.lam b q) => S.M.act b (q.map fun (o : Option PyData) => o.map Vl.d) s.t | _ => .bad) with
    | .ok y t => .nx ⟨s.r.set j0 (some (.d y)), (fzx y (.act 0) s.fl).set j0 false, t⟩
    | .exc c p t => (match evS S.M h ⟨(List.replicate s.r.length none).set i (some (.exc c p)), List.replicate s.r.length false, t⟩ with
      | .nx s' => .nx ⟨(unexc s'.r).set i none, s'.fl.set i false, s'.t⟩
      | _ => .bad)
    | .bad => .bad) D := hh
  cases hg : getV s.r 0 with
  | none => rw [hg] at hh; exact hh.elim
  | some v =>
    cases v with
    | lam b q =>
      rw [hg] at hh
      dsimp only at hh
      obtain ⟨x0, hx0, qs⟩ := fr.rel.slot 0 _ hg
      unfold SltR at qs
      have nf : ¬ flg s.fl 0 = true := fun z => by
        rw [if_pos z] at qs
        obtain ⟨_, _, _, _, z⟩ := qs
        rcases z with ⟨_, _, z, _⟩ | ⟨_, _, z, _⟩ <;> cases z
      rw [if_neg nf] at qs
      obtain ⟨lm', l1, l2, l3, l4, l5⟩ := qs
      rw [hst, hlm] at l1
      cases l1
      subst l2 l3
      refine ⟨fun cls d H' => ∀ σ', σ'.length = σ.length → wAs X.K (.ref C0) i (fun a cls d D σ H => ∃ k x C, S.T.exs[k]? = some x ∧ S.mg x = some (.ref C) ∧ cls = .ref C ∧ d = none ∧ tS (S.sui a k) h D σ H) S.W D cls d σ' H', fun cls d σ' H' hE hl => hE σ' hl, hx0, l4, ?_⟩
      have RL : Rel S.K { aT with s := S.s.base } F (fun _ => false) (q.map fun (o : Option PyData) => o.map Vl.d) s.t lm.σ H := by
        refine ⟨⟨fr.rel.dom, fr.rel.tape, fr.rel.none, ?_⟩, by rw [List.length_map]; exact l5.len, fun j w hw => ?_, fun j z => (by cases z), fun j k a z => (by cases z)⟩
        · show LamX.Tabs S.s.tb H
          rw [← hst]
          exact fr.rel.tabs
        · unfold getV at hw
          rw [List.getElem?_map] at hw
          cases hq : q[j]? with
          | none => rw [hq] at hw; cases hw
          | some o =>
            rw [hq] at hw
            cases o with
            | none => cases hw
            | some y =>
              cases hw
              obtain ⟨u, u1, u2⟩ := l5.slot j y hq
              exact ⟨u, u1, u2⟩
      refine ⟨_, F, _, s.t, rfl, RL, ?_⟩
      cases hact : S.M.act lm.b (q.map fun (o : Option PyData) => o.map Vl.d) s.t with
      | bad => rw [hact] at hh; exact hh.elim
      | ok y t' =>
        rw [hact] at hh
        intro v H' F1 g RL' rp
        have g' : Go aT F H F1 H' := ⟨⟨g.nx.k⟩, g.gr, g.nw, g.no⟩
        have T' : TR S.K aT F1 t' H' := ⟨RL'.dom, RL'.tape, RL'.none, by rw [hst]; exact RL'.tabs⟩
        obtain ⟨F2, f2⟩ := fr.set (i := j0) (e := .act 0) (m := false) g' (fr.rel.after g' T') (.inl ⟨rfl, rp.mono fun _ z => .inl z⟩)
        exact hh aT F2 _ H' hst f2
      | exc ce pe t' =>
        rw [hact] at hh
        intro cls d H' F1 g RL' er σ' hσ'
        obtain ⟨xe, Ce, e1, e2, e3, e4, e5⟩ := er
        subst e3 e5
        refine ⟨true, by rw [G.K]; exact G.ec ce x xe C0 Ce hx e1 hm0 e2, fun _ a na => ⟨ce, xe, Ce, e1, e2, rfl, rfl, ?_⟩, fun z => by cases z⟩
        have g' : Go aT F H F1 H' := ⟨⟨g.nx.k⟩, g.gr, g.nw, g.no⟩
        have T' : TR S.K aT F1 t' H' := ⟨RL'.dom, RL'.tape, RL'.none, by rw [hst]; exact RL'.tabs⟩
        have lenr : σ'.length = s.r.length := hσ'.trans fr.rel.len
        have frS : Fr (S.sui a ce) B { aT with s := (S.sui a ce).s } F1 ⟨(List.replicate s.r.length none).set i (some (.exc ce pe)), List.replicate s.r.length false, t'⟩ (σ'.set i (some (.ref a))) H' := by
          refine ⟨⟨⟨T'.dom, T'.tape, T'.none, by show LamX.Tabs S.s.tb H'; rw [← hst]; exact T'.tabs⟩, by simp [lenr], fun j w hw => ?_, fun j z => ?_, fun j k b z => ?_⟩, fr.over g', fun j b z => ?_, fr.tp, by simp, fr.kp.trans (fr.rel.keepF g'.nx) fr.kf, fun b z => g'.gr b (fr.kf b z)⟩
          · have hw : getV ((List.replicate s.r.length none).set i (some (.exc ce pe))) j = some w := hw
            rw [getV_set] at hw
            by_cases hij : i = j ∧ i < (List.replicate s.r.length (none : Option Vl)).length
            · rw [if_pos hij] at hw
              cases hw
              obtain ⟨e1, e2⟩ := hij
              subst e1
              rw [List.length_replicate] at e2
              refine ⟨.ref a, by rw [List.getElem?_set_self (by omega)], ?_⟩
              unfold SltR
              rw [if_neg (by show ¬ flg (List.replicate s.r.length false) i = true; rw [flg_rep]; exact Bool.false_ne_true)]
              exact ⟨a, rfl, rfl⟩
            · rw [if_neg hij, getV_rep] at hw
              cases hw
          · have z : flg (List.replicate s.r.length false) j = true := z
            rw [flg_rep] at z
            cases z
          · have z : flg (List.replicate s.r.length false) j = true := z
            rw [flg_rep] at z
            cases z
          · have z : flg (List.replicate s.r.length false) j = true := z
            rw [flg_rep] at z
            cases z
        refine ⟨B, _, F1, _, rfl, frS, ?_⟩
        show OPost (S.sui a ce) B (evS S.M h _) _
        dsimp only at hh
        cases hev : evS S.M h ⟨(List.replicate s.r.length none).set i (some (.exc ce pe)), List.replicate s.r.length false, t'⟩ with
        | nx s3 =>
          rw [hev] at hh
          intro aT3 F3 σ3 H3 h3 f3
          refine hh { aT3 with s := S.s } F3 (σ3.set i none) H3 rfl ?_
          have tb3 : aT3.s.tb = S.s.tb := by rw [h3]; rfl
          have lm3 : aT3.s.lm = S.s.lm := by rw [h3]; rfl
          have fne : ∀ {j}, flg (s3.fl.set i false) j = true → i ≠ j ∧ flg s3.fl j = true := fun {j} z => by
            rw [flg_set] at z
            by_cases hij : i = j ∧ i < s3.fl.length
            · rw [if_pos hij] at z; cases z
            · rw [if_neg hij] at z
              refine ⟨fun e => ?_, z⟩
              subst e
              have hl : ¬ i < s3.fl.length := fun z => hij ⟨rfl, z⟩
              unfold flg at z
              rw [List.getD_eq_getElem?_getD, List.getElem?_eq_none (by omega)] at z
              cases z
          refine ⟨⟨⟨f3.rel.dom, f3.rel.tape, f3.rel.none, by show LamX.Tabs S.s.tb H3; rw [← tb3]; exact f3.rel.tabs⟩, by simp [unexc, f3.rel.len], fun j w hw => ?_, fun j z => ?_, fun j k b z1 z2 z3 z4 => ?_⟩, f3.go, fun j b z1 z2 => ?_, f3.tp, by simp [unexc, f3.lf], f3.kp, f3.kf⟩
          · have hw : getV ((unexc s3.r).set i none) j = some w := hw
            rw [getV_set] at hw
            by_cases hij : i = j ∧ i < (unexc s3.r).length
            · rw [if_pos hij] at hw; cases hw
            · rw [if_neg hij] at hw
              obtain ⟨w1, w2⟩ := getV_unexc hw
              obtain ⟨y, y1, y2⟩ := f3.rel.slot j w w1
              have hne : i ≠ j := fun e => by
                subst e
                have hl : ¬ i < (unexc s3.r).length := fun z => hij ⟨rfl, z⟩
                have hl2 : (unexc s3.r).length = s3.r.length := by simp [unexc]
                unfold getV at w1
                rw [List.getElem?_eq_none (by omega)] at w1
                cases w1
              refine ⟨y, by rw [List.getElem?_set_ne hne]; exact y1, ?_⟩
              have fe : flg (s3.fl.set i false) j = flg s3.fl j := by rw [flg_set, if_neg fun z => hne z.1]
              show SltR S.K _ F3 H3 (flg (s3.fl.set i false) j) y w
              rw [fe]
              unfold SltR at y2 ⊢
              by_cases hf : flg s3.fl j = true
              · rw [if_pos hf] at y2 ⊢
                exact y2
              · rw [if_neg hf] at y2 ⊢
                cases w with
                | exc k p => exact absurd rfl (w2 k p)
                | lam b0 q0 =>
                  obtain ⟨m, m1, m2⟩ := y2
                  exact ⟨m, by rw [← lm3]; exact m1, m2⟩
                | _ => exact y2
          · obtain ⟨z1, z2⟩ := fne z
            obtain ⟨w, y, hw, hy, ow⟩ := f3.rel.ownR z2
            have : ∃ x, w = .d x := by
              obtain ⟨_, _, _, _, q⟩ := ow
              rcases q with ⟨_, _, e, _⟩ | ⟨_, _, e, _⟩ <;> exact ⟨_, e⟩
            obtain ⟨x, rfl⟩ := this
            refine ⟨.d x, ?_⟩
            show getV ((unexc s3.r).set i none) j = _
            rw [getV_set, if_neg fun z => z1 z.1]
            exact unexc_get hw
          · obtain ⟨n1, m1⟩ := fne z1
            obtain ⟨n2, m2⟩ := fne z2
            rw [List.getElem?_set_ne n1] at z3
            rw [List.getElem?_set_ne n2] at z4
            exact f3.rel.dis j k b m1 m2 z3 z4
          · obtain ⟨n1, m1⟩ := fne z1
            rw [List.getElem?_set_ne n1] at z2
            exact f3.own j b m1 z2
        | rt x m t => rw [hev] at hh; exact hh.elim
        | ex k p s3 => rw [hev] at hh; exact hh.elim
        | bad => rw [hev] at hh; exact hh.elim
    | _ => rw [hg] at hh; exact hh.elim
/-- isinstance(e, X), e what was caught -/
theorem s_isx {i k : Nat} {n x : Str} {p p1 p2 pos : Pos} (G : Good S c X) (hN : c.N[i]? = some n) (hv : visB c.sc n = true) (hg : glB c.sc "isinstance" = true) (hk : S.T.exs[k]? = some x) (hk0 : k ≠ 0) (hgx : glB c.sc x = true) (h1000 : k ≠ 1000) :
    PE X (.Call (.Name "isinstance" p) [.Name n p1, .Name x p2] [] pos) (tE S (.isx i k)) := by
  obtain ⟨h1, h2, h3⟩ := visB_of hv
  obtain ⟨C, hm, _⟩ := G.ex k x hk
  have hmi : X.mg "isinstance" = none := by rw [G.mg]; exact G.fr _ (by simp [blts])
  have rd : ∀ σ H Q, tE S (.isx i k) σ H Q → ∃ a d D y, S.s.xc = some (a, d) ∧ S.T.exs[d]? = some y ∧ S.mg y = some (.ref D) ∧ σ[i]? = some (some (.ref a)) ∧ CallR X (.builtin "isinstance") (rIsE X.K D a) ∧ Q (.bl (decide (k = d))) H := fun σ H Q h => by
    obtain ⟨aT, F, fl, r, t, hst, R, h⟩ := h
    have h : Post (match getV r i with | some (.exc d _) => Res.ok (PyData.bool (decide (k = d) || decide (k = 1000))) t | _ => .bad) _ _ := h
    split at h
    · rename_i d pp hg
      obtain ⟨y0, hy0, q⟩ := R.slot i _ hg
      unfold SltR at q
      split at q
      · obtain ⟨_, _, _, _, z⟩ := q
        rcases z with ⟨_, _, z, _⟩ | ⟨_, _, z, _⟩ <;> cases z
      · obtain ⟨a, e1, e2⟩ := q
        subst e1
        rw [hst] at e2
        obtain ⟨y, D, y1, y2, y3⟩ := G.xs a d e2
        have h := h.okk (.bl (decide (k = d))) H F .refl R (by
          have e0 : (decide (k = d) || decide (k = 1000)) = decide (k = d) := by simp [h1000]
          rw [e0]
          exact vr_scal _)
        exact ⟨a, d, D, y, e2, y1, y2, hy0, y3, h⟩
    · exact h.elim
  cases hxc : S.s.xc with
  | none =>
    refine ⟨fun pins s σ H Q I h => ?_⟩
    obtain ⟨a, d, D, y, e, _⟩ := rd σ H Q h
    rw [hxc] at e
    cases e
  | some ad =>
    obtain ⟨a, d⟩ := ad
    obtain ⟨y, D, y1, y2, y3⟩ := G.xs a d hxc
    refine peOf (pe_callB y3 (gl_of G hg) hmi rfl (pa_cons (pe_var (i := i) (by rw [G.N]; exact hN) (by rw [G.sc]; exact h1) h2 h3) (pa_cons (pe_glob (v := .ref C) (gl_of G hgx) (by rw [G.mg]; exact hm) rfl (glB_of hgx).2) pa_nil (star_of rfl)) (star_of rfl)) (he := star_of rfl)) fun σ H Q h => ?_
    obtain ⟨a', d', D', y', e1, e2, e3, e4, e5, q⟩ := rd σ H Q h
    rw [hxc] at e1
    cases e1
    rw [y1] at e2
    cases e2
    rw [y2] at e3
    cases e3
    exact ⟨.ref a, e4, .ref C, .ref C, _, rfl, fun u r => r, by rw [G.K]; exact G.ek k d x y C D hk y1 hk0 hm y2, q⟩
theorem s_isv {i : Nat} {n : Str} {p p1 p2 pos : Pos} (G : Good S c X) (hN : c.N[i]? = some n) (hv : visB c.sc n = true) (hg : glB c.sc "isinstance" = true) (hgx : glB c.sc "ValueError" = true) :
    PE X (.Call (.Name "isinstance" p) [.Name n p1, .Name "ValueError" p2] [] pos) (tE S (.isx i 1000)) := by
  obtain ⟨h1, h2, h3⟩ := visB_of hv
  have hmi : X.mg "isinstance" = none := by rw [G.mg]; exact G.fr _ (by simp [blts])
  have hmv : X.mg "ValueError" = none := by rw [G.mg]; exact G.fr _ (by simp [blts])
  have rd : ∀ σ H Q, tE S (.isx i 1000) σ H Q → ∃ a d D y, S.s.xc = some (a, d) ∧ S.T.exs[d]? = some y ∧ S.mg y = some (.ref D) ∧ σ[i]? = some (some (.ref a)) ∧ CallR X (.builtin "isinstance") (rIsE X.K D a) ∧ Q (.bl true) H := fun σ H Q h => by
    obtain ⟨aT, F, fl, r, t, hst, R, h⟩ := h
    have h : Post (match getV r i with | some (.exc d _) => Res.ok (PyData.bool (decide (1000 = d) || decide (1000 = 1000))) t | _ => .bad) _ _ := h
    split at h
    · rename_i d pp hg
      obtain ⟨y0, hy0, q⟩ := R.slot i _ hg
      unfold SltR at q
      split at q
      · obtain ⟨_, _, _, _, z⟩ := q
        rcases z with ⟨_, _, z, _⟩ | ⟨_, _, z, _⟩ <;> cases z
      · obtain ⟨a, e1, e2⟩ := q
        subst e1
        rw [hst] at e2
        obtain ⟨y, D, y1, y2, y3⟩ := G.xs a d e2
        have h := h.okk (.bl true) H F .refl R (by
          have e0 : (decide (1000 = d) || decide (1000 = 1000)) = true := by simp
          rw [e0]
          exact vr_scal _)
        exact ⟨a, d, D, y, e2, y1, y2, hy0, y3, h⟩
    · exact h.elim
  cases hxc : S.s.xc with
  | none =>
    refine ⟨fun pins s σ H Q I h => ?_⟩
    obtain ⟨a, d, D, y, e, _⟩ := rd σ H Q h
    rw [hxc] at e
    cases e
  | some ad =>
    obtain ⟨a, d⟩ := ad
    obtain ⟨y, D, y1, y2, y3⟩ := G.xs a d hxc
    refine peOf (pe_callB y3 (gl_of G hg) hmi rfl (pa_cons (pe_var (i := i) (by rw [G.N]; exact hN) (by rw [G.sc]; exact h1) h2 h3) (pa_cons (pe_bltn (v := .ty "ValueError") (u := .type "ValueError") (gl_of G hgx) hmv rfl rfl) pa_nil (star_of rfl)) (star_of rfl)) (he := star_of rfl)) fun σ H Q h => ?_
    obtain ⟨a', d', D', y', e1, e2, e3, e4, e5, q⟩ := rd σ H Q h
    rw [hxc] at e1
    cases e1
    rw [y1] at e2
    cases e2
    rw [y2] at e3
    cases e3
    exact ⟨.ref a, e4, .ty "ValueError", .type "ValueError", true, rfl, fun u r => r, by rw [G.K]; exact G.ev d y D y1 y2, q⟩
/-- a call, its value used -/
theorem e_call {f : Nat} {es : Ex} {e : Expr} (h : PE X e (tR S (.call f es))) : PE X e (tE S (.call f es)) := peOf h fun σ H Q h => by
  obtain ⟨aT, F, fl, r, t, hst, R, h⟩ := h
  have h : Post ((evs S.M es r t).bind fun vs t => (S.M.cl f vs t).bind fun x t => Res.ok x.1 t) _ _ := h
  rw [← bind_assoc] at h
  refine ⟨aT, F, fl, r, t, hst, R, h.bind.mono (fun x t1 h v H1 F1 g1 R1 V1 => ?_) fun _ _ _ k => k⟩
  obtain ⟨F2, g2, R2, _, V2⟩ := freeze R g1 R1 V1
  exact h.okk v H1 F2 g2 R2 (.rp V2)
end
end Ev

set_option Elab.async false
set_option autoImplicit false
set_option linter.all false
set_option maxRecDepth 100000
set_option maxHeartbeats 1000000
/-! Displays of dicts with written keys. -/
namespace Ev
open PySem PySem.Spec PyProof.Rows L2
def litK : Ex → Option Key
  | .str s => some (.inr s)
  | .int i => some (.inl i)
  | _ => none
def litC : Ex → Const → Bool
  | .str s, .str z => decide (s = z)
  | .int i, .int j => decide (i = j)
  | _, _ => false
/-- the written keys -/
def chkK : Ex → List (Option Expr) → Bool
  | .nil, [] => true
  | .cons k r, some (.Constant z _ _) :: ks => litC k z && chkK r ks
  | _, _ => false
def keysL : Ex → List Key
  | .cons (.str s) r => .inr s :: keysL r
  | .cons (.int i) r => .inl i :: keysL r
  | _ => []
theorem lit_evs {g : Gm} : ∀ {e : Ex} {ks : List (Option Expr)}, chkK e ks = true → ∀ r t, evs g e r t = .ok ((keysL e).map fun k => .d (datK k)) t
  | .nil, [], _, _, _ => rfl
  | .cons k e, some (.Constant z _ _) :: ks, h, r, t => by
    have h : (litC k z && chkK e ks) = true := h
    rw [Bool.and_eq_true] at h
    have ih := lit_evs (g := g) h.2 r
    cases k with
    | str s =>
      have : evs g (.cons (.str s) e) r t = (Res.ok (PyData.str s) t).bind fun x t => (evs g e r t).bind fun xs t => .ok (.d x :: xs) t := rfl
      rw [this]
      show ((evs g e r t).bind fun xs t => Res.ok (Vl.d (PyData.str s) :: xs) t) = _
      rw [ih t]
      rfl
    | int i =>
      have : evs g (.cons (.int i) e) r t = (Res.ok (PyData.int i) t).bind fun x t => (evs g e r t).bind fun xs t => .ok (.d x :: xs) t := rfl
      rw [this]
      show ((evs g e r t).bind fun xs t => Res.ok (Vl.d (PyData.int i) :: xs) t) = _
      rw [ih t]
      rfl
    | _ => cases h.1
theorem allD_map : ∀ (xs : List PyData), allD (xs.map Vl.d) = some xs
  | [] => rfl
  | x :: xs => by
    show (allD (xs.map Vl.d)).map (x :: ·) = _
    rw [allD_map xs]
    rfl
theorem putAll_rp {K : PySem.W.Frag} {H : Hp} {A : Addr → Prop} : ∀ {ks : List Key} {us : List V} {ds : List PyData} {kvs : List (Key × V)} {es res : List (PyData × PyData)}, RpA K H A us ds → RpK K H A kvs es → putAll es (ks.map datK) ds = some res → us.length = ks.length ∧ RpK K H A (mergeK kvs (ks.zip us)) res
  | [], us, ds, kvs, es, res, r, rk, h => by
    cases r with
    | nil => cases h; exact ⟨rfl, rk⟩
    | cons _ _ => cases h
  | k :: ks, us, ds, kvs, es, res, r, rk, h => by
    cases r with
    | nil => cases h
    | cons r1 r2 =>
      have h : ((keyOf (datK k)).bind fun k => putAll (put k _ es) (ks.map datK) _) = some res := h
      rw [keyOf_dat] at h
      obtain ⟨h1, h2⟩ := putAll_rp r2 (rk.put k r1) h
      exact ⟨by simp [h1], h2⟩
section
variable {S : Sx} {c : Ck} {X : Cx}
/-- the values, each behind its key -/
def valsOk (S : Sx) (X : Cx) : Ex → List Expr → Prop
  | .nil, [] => True
  | .cons v r, e :: es => PE X e (tE S v) ∧ (∀ rr t, evs S.M (.cons v r) rr t = (ev S.M v rr t).bind fun x t => (evs S.M r rr t).bind fun xs t => .ok (.d x :: xs) t) ∧ valsOk S X r es
  | _, _ => False
def trsOf (S : Sx) : Ex → Ex → List (TE × TE)
  | .cons k ks, .cons v vs => (tC (match litK k with | some q => kV q | none => .non), tE S v) :: trsOf S ks vs
  | _, _ => []
theorem pe_litC {k : Ex} {z : Const} {j : Nat} {p : Pos} (h : litC k z = true) : PE X (.Constant z j p) (tC (match litK k with | some q => kV q | none => .non)) := by
  cases k with
  | str s => cases z <;> first | (cases of_decide_eq_true h; exact pe_str) | cases h
  | int s => cases z <;> first | (cases of_decide_eq_true h; exact pe_int) | cases h
  | _ => cases h
theorem pps_of {pos : Pos} : ∀ {ks vs : Ex} {keys : List (Option Expr)} {values : List Expr}, chkK ks keys = true → valsOk S X vs values → argN ks = argN vs → PPs X pos keys values (trsOf S ks vs)
  | .nil, .nil, [], [], _, _, _ => pps_nil
  | .cons k ks, .cons v vs, some (.Constant z _ _) :: keys, e :: es, h, hv, hn => by
    have h : (litC k z && chkK ks keys) = true := h
    rw [Bool.and_eq_true] at h
    exact pps_cons (pe_litC h.1) hv.1 (pps_of h.2 hv.2.2 (by simpa [argN] using hn))
  | .nil, .cons _ _, _, _, _, _, hn => by simp [argN] at hn
  | .cons _ _, .nil, _, _, _, _, hn => by simp [argN] at hn
theorem keysL_len : ∀ {e : Ex} {ks : List (Option Expr)}, chkK e ks = true → (keysL e).length = argN e
  | .nil, [], _ => rfl
  | .cons k e, some (.Constant z _ _) :: ks, h => by
    have h : (litC k z && chkK e ks) = true := h
    rw [Bool.and_eq_true] at h
    have ih := keysL_len h.2
    cases k with
    | str s => simp [keysL, argN, ih]
    | int i => simp [keysL, argN, ih]
    | _ => cases h.1
theorem pairs_of : ∀ {ks vs : Ex} {keys : List (Option Expr)} {values : List Expr}, chkK ks keys = true → valsOk S X vs values → argN ks = argN vs → ∀ {aT : TpA} {F : Addr → Prop} {fl : Flg} {r : Env} {t : Tp} {σ : L2.St} {H : Hp} {Q : List (V × V) → Hp → Prop}, aT.s = S.s → Rel S.K aT F fl r t σ H →
    Post (evs S.M vs r t) (fun xs t' => ∀ us H' F1, Go aT F H F1 H' → Rel S.K aT F1 fl r t' σ H' → AgsR S.K aT H' (fun a => F1 a ∨ OA fl σ (retE vs) a) us xs → Q ((keysL ks).zip us |>.map fun p => (kV p.1, p.2)) H') (PX S aT F fl r σ H) → tPairs (trsOf S ks vs) σ H Q
  | .nil, .nil, [], [], _, _, _, aT, F, fl, r, t, σ, H, Q, hst, R, h => by
    exact h [] H F .refl R .nil
  | .cons k ks, .cons v vs, some (.Constant z _ _) :: keys, e :: es, hk, hv, hn, aT, F, fl, r, t, σ, H, Q, hst, R, h => by
    have hk : (litC k z && chkK ks keys) = true := hk
    rw [Bool.and_eq_true] at hk
    rw [hv.2.1] at h
    show tE S v σ H fun y H2 => tPairs (trsOf S ks vs) σ H2 fun ps H3 => Q ((_, y) :: ps) H3
    refine useE R (h.bind.mono (fun x t1 h u H1 F1 g1 R1 V1 => ?_) fun _ _ _ k => k)
    refine pairs_of hk.2 hv.2.2 (by simpa [argN] using hn) hst R1 (h.bind.mono (fun xs t2 h us H2 F2 g2 R2 V2 => ?_) fun _ _ _ k => k.go g1)
    have := h.okk (u :: us) H2 F2 (g1.trans g2) R2 (.cons (V1.go R1 g2 fun i hi => List.mem_append_left _ hi) (V2.mono fun a z => z.elim .inl fun z => .inr (z.sub fun i hi => List.mem_append_right _ hi)))
    cases k with
    | str s => exact this
    | int i => exact this
    | _ => cases hk.1
  | .nil, .cons _ _, _, _, _, _, hn, _, _, _, _, _, _, _, _, _, _, _ => by simp [argN] at hn
  | .cons _ _, .nil, _, _, _, _, hn, _, _, _, _, _, _, _, _, _, _, _ => by simp [argN] at hn
theorem s_dic {ks vs : Ex} {keys : List (Option Expr)} {values : List Expr} {pos : Pos} (hk : chkK ks keys = true) (hv : valsOk S X vs values) (hn : argN ks = argN vs) (h0 : keys ≠ []) (h15 : keys.length ≤ 15) (hl : keys.length = values.length) (hn15 : argN ks ≤ 15) (hall : keys.all (·.isSome) = true) :
    PE X (.Dict keys values pos) (tE S (.dic ks vs)) := by
  refine peOf (pe_disp (pps_of hk hv hn) hall hl h0 h15) fun σ H Q h => ?_
  obtain ⟨aT, F, fl, r, t, hst, R, h⟩ := h
  have h : Post ((evs S.M ks r t).bind fun as t => (evs S.M vs r t).bind fun bs t => lift ((allD as).bind fun as => (allD bs).bind fun bs => (putAll [] as bs).map PyData.dict) t) _ _ := h
  rw [lit_evs hk] at h
  have h : Post ((evs S.M vs r t).bind fun bs t => lift ((allD ((keysL ks).map fun k => Vl.d (datK k))).bind fun as => (allD bs).bind fun bs => (putAll [] as bs).map PyData.dict) t) _ _ := h
  have e0 : ((keysL ks).map fun k => Vl.d (datK k)) = ((keysL ks).map datK).map Vl.d := by rw [List.map_map]; rfl
  rw [e0, allD_map] at h
  intro p hp
  have ex := ext_new (o := .dK []) hp
  have R0 := R.ext ex
  refine pairs_of hk hv hn hst R0 (h.bind.mono (fun xs t1 h us H1 F1 g1 R1 V1 => ?_) fun _ _ _ k => k.go (Go.ext ex))
  obtain ⟨z, hz, k⟩ := h.lift
  obtain ⟨ds, e1, e2⟩ := Option.bind_eq_some_iff.mp (show (allD xs).bind (fun bs => (putAll [] ((keysL ks).map datK) bs).map PyData.dict) = some z from hz)
  obtain ⟨res, e3, e4⟩ := Option.map_eq_some_iff.mp e2
  subst e4
  have D := V1.data e1
  obtain ⟨l1, rk⟩ := putAll_rp D .nil e3
  have nT : aT.a ≠ some p := noTape R (.of hp)
  have st : H1 p = some (.dK []) := g1.nx.k p _ upd_same nT fun _ z => by cases z
  have nF1 : ¬ F1 p := fun z => by
    rcases g1.nw p z with z | z
    · obtain ⟨o, q, _⟩ := R.dom p z
      rw [hp] at q
      cases q
    · exact z.no upd_same fun _ z => by cases z
  have nO : ∀ is, ¬ OA fl σ is p := fun is z => Lp.noO (aT := aT) R hp z
  refine ⟨st, (keysL ks).zip us, rfl, by rw [List.length_zip, keysL_len hk]; omega, ?_⟩
  have kp := keep_upd (A := fun a => F1 a ∨ OA fl σ (retE vs) a) (o := .dK (mergeK [] ((keysL ks).zip us))) st (.inr ⟨_, rfl⟩) fun z => z.elim nF1 (nO _)
  have g2 : Go aT F H F1 (upd H1 p (.dK (mergeK [] ((keysL ks).zip us)))) := ((Go.ext ex).trans g1).upd (.of hp)
  have R2 : Rel S.K aT F1 fl r t1 σ (upd H1 p (.dK (mergeK [] ((keysL ks).zip us)))) := R.after g2 (R1.toTR.upd st (.inr ⟨_, rfl⟩) nF1 nT)
  exact k _ _ F1 g2 R2 (.inr ⟨rfl, p, rfl, .of hp, nF1, .inr ⟨_, _, rfl, upd_same, (rk.keep kp fun _ z => z).mono fun a z => z.elim .inl fun z => .inr (z.sub fun i hi => List.mem_append_right _ hi)⟩⟩)
end
end Ev

set_option Elab.async false
set_option autoImplicit false
set_option linter.all false
set_option maxRecDepth 100000
set_option maxHeartbeats 1000000
/-! The checker of expressions. -/
namespace Ev
open PySem PySem.Spec PyProof.Rows L2
structure Chks where
  e : Expr → Bool
  t : Expr → Bool
  a : List Expr → Bool
  i : Expr → Expr → Bool
  v : BoolOp → List Expr → Bool
  w : BoolOp → List Expr → Bool
  l : Scope → Expr → Bool
def notSet : Expr → Bool
  | .Set .. => false
  | _ => true
def Chks.mk2 (f g : Expr → Bool) : Chks where
  e := f
  t := g
  a := fun _ => false
  i := fun _ x => notSet x && f x
  v := fun _ xs => match xs with
    | [x] => f x
    | _ => false
  w := fun _ xs => match xs with
    | [x] => g x
    | _ => false
  l := fun _ _ => false
def Chks.of (f : Expr → Bool) : Chks := Chks.mk2 f fun x => plainT x && f x
def Chks.no : Chks := Chks.of fun _ => false
def nameB (c : Ck) (i : Nat) (n : Str) : Bool := decide (c.N[i]? = some n) && visB c.sc n
def partB (e : Ex) (f : Expr → Bool) : Option Expr → Bool
  | none => isNil e
  | some x => !isNil e && f x
def callB (c : Ck) (f : Nat) (n : Str) : Bool := match c.T.fns[f]? with
  | some (x, _, g) => decide (x = n) && (!g || c.gd)
  | none => false
def plainArg : Ex → Bool
  | .tpv _ | .scv _ | .lam _ => false
  | _ => true
def allArgs : Ex → Bool
  | .nil => true
  | .cons a r => plainArg a && allArgs r
  | _ => false
def tyB (c : Ck) : List Ty → List Expr → Bool
  | [t], [.Name x _] => decide (x = tyN t) && glB c.sc x
  | ts, [.Tuple es _ _] => tyNs ts es && decide (ts.length ≤ 100) && ts.all fun t => glB c.sc (tyN t)
  | _, _ => false
def c_var (c : Ck) (i : Nat) : Expr → Bool
  | .Name n _ => nameB c i n
  | _ => false
def c_non : Expr → Bool
  | .Constant .none _ _ => true
  | _ => false
def c_bl (b : Bool) : Expr → Bool
  | .Constant (.bool d) _ _ => b == d
  | _ => false
def c_int (i : Int) : Expr → Bool
  | .Constant (.int d) _ _ => decide (i = d)
  | _ => false
def c_str (s : Str) : Expr → Bool
  | .Constant (.str d) _ _ => decide (s = d)
  | _ => false
def glK (c : Ck) (k : Nat) (n : Str) : Bool := match c.T.gls[k]? with
  | some (m, _) => decide (m = n)
  | none => false
def glT (c : Ck) (k : Nat) (n : Str) : Bool := match c.T.gls[k]? with
  | some (m, .tuple _) => decide (m = n)
  | _ => false
def c_glb (c : Ck) (k : Nat) : Expr → Bool
  | .Name n _ => glB c.sc n && glK c k n
  | _ => false
def c_arg (c : Ck) (f : Expr → Bool) : Ex → Expr → Bool
  | .tpv i, .Name n _ => nameB c i n
  | .scv i, .Name n _ => nameB c i n
  | u, x => plainArg u && f x
def c_cons (c : Ck) (u : Ex) (f : Expr → Bool) (g : List Expr → Bool) : List Expr → Bool
  | x :: r => notStar x && c_arg c f u x && g r
  | [] => false
def c_tup (n : Nat) (g : List Expr → Bool) : Expr → Bool
  | .Tuple xs _ _ => decide (n ≤ 1000) && g xs
  | _ => false
def c_lst (n : Nat) (g : List Expr → Bool) : Expr → Bool
  | .List xs _ => decide (n ≤ 1000) && g xs
  | _ => false
/-- plain arguments alone, each by its own check -/
def plainBs : List Expr → List (Expr → Bool) → Bool
  | [], [] => true
  | x :: xs, f :: fs => notStar x && f x && plainBs xs fs
  | _, _ => false
def c_dic (ks vs : Ex) (g : List Expr → Bool) : Expr → Bool
  | .Dict [] [] _ => decide (ks = .nil) && decide (vs = .nil)
  | .Dict keys values _ => chkK ks keys && allArgs vs && g values && decide (argN ks = argN vs) && !keys.isEmpty && decide (keys.length ≤ 15) && decide (keys.length = values.length) && decide (argN ks ≤ 15) && keys.all (·.isSome)
  | _ => false
def c_bin (o : BOp) (f g : Expr → Bool) : Expr → Bool
  | .BinOp y p z _ => decide (p = bop o) && f y && g z
  | _ => false
def c_neg (f : Expr → Bool) : Expr → Bool
  | .UnaryOp .USub y _ => f y
  | _ => false
def c_not (f : Expr → Bool) : Expr → Bool
  | .UnaryOp .Not y _ => f y
  | _ => false
def c_tail (f : Expr → Bool) (g : List Expr → Bool) : List Expr → Bool
  | y :: z :: r => f y && g (z :: r)
  | _ => false
def c_bool (o : BoolOp) (V : List Expr → Bool) : Expr → Bool
  | .BoolOp p xs _ => decide (p = o) && V xs
  | _ => false
def c_more (o : BoolOp) (E : Expr → Bool) (V : List Expr → Bool) : BoolOp → List Expr → Bool
  | _, [x] => E x
  | p, xs => decide (p = o) && V xs
def Chks.two (o : BoolOp) (A B : Chks) : Chks :=
  { Chks.mk2 (c_bool o (c_tail A.e (B.v o))) (c_bool o (c_tail A.t (B.w o))) with
    v := c_more o (c_bool o (c_tail A.e (B.v o))) (c_tail A.e (B.v o))
    w := c_more o (c_bool o (c_tail A.t (B.w o))) (c_tail A.t (B.w o)) }
def c_cmp (o : COp) (f g : Expr → Bool) : Expr → Bool
  | .Compare y [p] [z] _ => decide (p = cop o) && notSet z && f y && g z
  | _ => false
def c_cm2 (o q : COp) (f g h : Expr → Bool) : Expr → Bool
  | .Compare y [p, p2] [z, w] _ => decide (p = cop o) && decide (p2 = cop q) && notSet w && f y && g z && h w
  | _ => false
def c_isn (f : Expr → Bool) : Expr → Bool
  | .Compare y [.Is] [.Constant .none _ _] _ => f y
  | _ => false
def c_nsn (f : Expr → Bool) : Expr → Bool
  | .Compare y [.IsNot] [.Constant .none _ _] _ => f y
  | _ => false
def c_ite (k f g : Expr → Bool) : Expr → Bool
  | .IfExp z y w _ => k z && f y && g w
  | _ => false
def c_idx (f g : Expr → Bool) : Expr → Bool
  | .Subscript y z _ => notSlice z && f y && g z
  | _ => false
def c_tix (c : Ck) (i : Nat) (g : Expr → Bool) : Expr → Bool
  | .Subscript (.Name n _) z _ => nameB c i n && notSlice z && g z
  | _ => false
def c_scs (c : Ck) (i : Nat) (lo hi : Ex) (f g : Expr → Bool) : Expr → Bool
  | .Subscript (.Name n _) (.Slice l h none _) _ => nameB c i n && partB lo f l && partB hi g h
  | _ => false
def c_sli (lo hi : Ex) (k f g : Expr → Bool) : Expr → Bool
  | .Subscript y (.Slice l h none _) _ => k y && partB lo f l && partB hi g h
  | _ => false
def Ck.lamb (c : Ck) (scope : Scope) : Ck := { c with sc := scope, fb := { scope with names := [] }, gd := false, top := false, lam := false }
/-- the lambda of an argument list, looked at -/
def c_lam (c : Ck) (f : Nat) (n : Str) (L : Scope → Expr → Bool) : List Expr → Bool
  | [.Lambda ⟨[], [], none, [], [], none, []⟩ body scope _] => c.lam && decide (c.T.lw = some (f, n)) && decide (c.N.length ≤ 200) && LamX.lamSB c.sc scope && L scope body
  | _ => false
def isLam : Ex → Bool
  | .cons (.lam _) .nil => true
  | _ => false
def c_call (c : Ck) (f : Nat) (es : Ex) (L : Scope → Expr → Bool) (g : List Expr → Bool) : Expr → Bool
  | .Call (.Name n _) args [] _ => c.calm && !c.sui && c.lmn.isNone && decide (n ≠ "") && glB c.sc n && (if isLam es = true then c_lam c f n L args else callB c f n && args.all notStar && (!args.isEmpty || decide (es = .nil)) && g args)
  | _ => false
def c_bi (c : Ck) (b : Bi) (g : List Expr → Bool) : Expr → Bool
  | .Call (.Name n _) (y :: args) [] _ => decide (n = bname b) && c.calm && (!decide (b = .repr) || c.gd) && glB c.sc n && (y :: args).all notStar && g (y :: args)
  | _ => false
def c_isi (c : Ck) (ts : List Ty) (f : Expr → Bool) : Expr → Bool
  | .Call (.Name n _) (y :: r) [] _ => decide (n = "isinstance") && glB c.sc n && notStar y && f y && tyB c ts r
  | _ => false
def c_met (m : Me) (f : Expr → Bool) (g : List Expr → Bool) : Expr → Bool
  | .Call (.Attribute y n apos) [z] [] cpos => decide (n = mname m) && (apos.endLine == cpos.line) && plainBase y && notStar z && f y && g [z]
  | _ => false
def c_gix (c : Ck) (k : Nat) (f : Expr → Bool) : Expr → Bool
  | .Call (.Attribute (.Name n _) m apos) [z] [] cpos => decide (m = "index") && (apos.endLine == cpos.line) && glB c.sc n && notStar z && f z && glT c k n
  | _ => false
def c_ifs (k : Ex) (T : Expr → Bool) : List Expr → Bool
  | [] => isNil k
  | [y] => !isNil k && T y
  | _ => false
def c_comp (c : Ck) (p : Pa) (k : Ex) (I : Expr → Expr → Bool) (T E : Scope → Expr → Bool) : Expr → Bool
  | .ListComp elt [⟨tg, iter, ifs, 0⟩] scope _ => c.calm && !c.sui && c.lmn.isNone && blkC c.N c.sc scope ((slotsP p).map fun i => (c.N.getD i "", i)) && chkP (c.blk scope) p tg && I tg iter && notSet iter && c_ifs k (T scope) ifs && E scope elt
  | _ => false
def c_rng (c : Ck) (a : Ex) (f g : Expr → Bool) : Expr → Bool
  | .Call (.Name n _) [y] [] _ => decide (n = "range") && glB c.sc n && notStar y && decide (a = .int 0) && g y
  | .Call (.Name n _) [y, z] [] _ => decide (n = "range") && glB c.sc n && notStar y && notStar z && f y && g z
  | _ => false
def isTupE : Expr → Bool
  | .Tuple _ _ _ => true
  | _ => false
def c_enu (c : Ck) (s : Ex) (f g : Expr → Bool) : Expr → Bool
  | .Call (.Name n _) (y :: r) [] _ => decide (n = "enumerate") && glB c.sc n && notStar y && r.all notStar && f y && c_ifs s g r
  | _ => false
def c_zip (c : Ck) (f g : Expr → Bool) : Expr → Bool
  | .Call (.Name n _) [y, z] [] _ => decide (n = "zip") && glB c.sc n && notStar y && notStar z && f y && g z
  | _ => false
def c_isx (c : Ck) (i k : Nat) : Expr → Bool
  | .Call (.Name n _) [.Name m _, .Name z _] [] _ => decide (n = "isinstance") && glB c.sc n && nameB c i m && glB c.sc z && (if k = 1000 then decide (z = "ValueError") else decide (k ≠ 0) && decide (c.T.exs[k]? = some z))
  | _ => false
def ck : Ex → Ck → Chks
  | .var i, c => .of (c_var c i)
  | .non, _ => .of c_non
  | .bl b, _ => .of (c_bl b)
  | .int i, _ => .of (c_int i)
  | .str s, _ => .of (c_str s)
  | .glb k, c => .of (c_glb c k)
  | .nil, _ => { Chks.no with a := List.isEmpty }
  | .cons u q, c => { Chks.no with a := c_cons c u (ck u c).e (ck q c).a, l := (ck u c).l }
  | .tup es, c => .of (c_tup (argN es) (ck es c).a)
  | .lst es, c => .of (c_lst (argN es) (ck es c).a)
  | .dic ks vs, c => .of (c_dic ks vs (ck vs c).a)
  | .bin o a b, c => .of (c_bin o (ck a c).e (ck b c).e)
  | .neg a, c => .of (c_neg (ck a c).e)
  | .not a, c => .mk2 (c_not (ck a c).e) (c_not (ck a c).t)
  | .and a b, c => .two .And (ck a c) (ck b c)
  | .or a b, c => .two .Or (ck a c) (ck b c)
  | .cmp o a b, c => .mk2 (c_cmp o (ck a c).e (ck b c).e) (c_cmp o (ck a c).e (ck b c).e)
  | .cm2 o q a b d, c => .mk2 (c_cm2 o q (ck a c).e (ck b c).e (ck d c).e) (c_cm2 o q (ck a c).e (ck b c).e (ck d c).e)
  | .isn a, c => .mk2 (c_isn (ck a c).e) (c_isn (ck a c).e)
  | .nsn a, c => .mk2 (c_nsn (ck a c).e) (c_nsn (ck a c).e)
  | .ite k a b, c => .of (c_ite (ck k c).t (ck a c).e (ck b c).e)
  | .idx a i, c => .of (c_idx (ck a c).e (ck i c).e)
  | .tix i k, c => .of (c_tix c i (ck k c).e)
  | .scs i lo hi, c => .of (c_scs c i lo hi (ck lo c).e (ck hi c).e)
  | .sli a lo hi, c => .of (c_sli lo hi (ck a c).e (ck lo c).e (ck hi c).e)
  | .lam b, c => { Chks.no with l := fun scope => (ck b (c.lamb scope)).e }
  | .call f es, c => .of (c_call c f es (ck es c).l (ck es c).a)
  | .bi b es, c => .of (c_bi c b (ck es c).a)
  | .isi a ts, c => .of (c_isi c ts (ck a c).e)
  | .met m o b, c => .of (c_met m (ck o c).e (ck b c).a)
  | .gix k a, c => .of (c_gix c k (ck a c).e)
  | .comp p it k e, c => .of (c_comp c p k (ck it c).i (fun scope => (ck k (c.blk scope)).t) (fun scope => (ck e (c.blk scope)).e))
  | .rng a b, c => { Chks.no with i := fun _ => c_rng c a (ck a c).e (ck b c).e }
  | .enu a s, c => { Chks.no with i := fun tg x => isTupE tg && c_enu c s (ck a c).e (ck s c).e x }
  | .zip a b, c => { Chks.no with i := fun tg x => isTupE tg && c_zip c (ck a c).e (ck b c).e x }
  | .isx i k, c => .of (c_isx c i k)
  | _, _ => .no
/-- the lambda of an argument list -/
def lamOf : Ex → Ex
  | .lam b => b
  | .cons u _ => lamOf u
  | e => e
/-- what the checks promise -/
structure CkOk (S : Sx) (c : Ck) (X : Cx) (q : Ex) : Prop where
  e : ∀ x, (ck q c).e x = true → PE X x (tE S q)
  t : ∀ x, (ck q c).t x = true → PT X x (tT S q)
  a : ∀ xs, (ck q c).a xs = true → PA X xs (tA S q)
  i : ∀ tg x, (ck q c).i tg x = true → PI X tg x (tI S q) ∧ notSet x = true
  v : ∀ o xs pos, (ck q c).v o xs = true → PE X (.BoolOp o xs pos) (tE S q)
  w : ∀ o xs pos, (ck q c).w o xs = true → PW X (.BoolOp o xs pos) (tT S q)
  o : ∀ xs, allArgs q = true → (ck q c).a xs = true → valsOk S X q xs
  l : ∀ scope body, (ck q c).l scope body = true → ∀ (S' : Sx) (X' : Cx), Good S' (c.lamb scope) X' → PE X' body (tE S' (lamOf q))
section
variable {S : Sx} {c : Ck} {X : Cx}
theorem CkOk.of2 {e : Ex} {f g : Expr → Bool} (G : Good S c X) (h : ck e c = .mk2 f g) (he : ∀ x, f x = true → PE X x (tE S e)) (ht : ∀ x, g x = true → PT X x (tT S e)) : CkOk S c X e where
  e := fun x hx => he x (by rw [h] at hx; exact hx)
  t := fun x hx => ht x (by rw [h] at hx; exact hx)
  a := fun x hx => by rw [h] at hx; cases hx
  i := fun tg x hx => by
    rw [h] at hx
    have hx : (notSet x && f x) = true := hx
    rw [Bool.and_eq_true] at hx
    exact ⟨i_seq G (he x hx.2), hx.1⟩
  v := fun o xs pos hx => by
    rw [h] at hx
    match xs, hx with
    | [x], hx => exact pe_one (he x hx)
    | [], hx => cases hx
    | _ :: _ :: _, hx => cases hx
  w := fun o xs pos hx => by
    rw [h] at hx
    match xs, hx with
    | [x], hx =>
      cases o with
      | And => exact pw_and1 (ht x hx)
      | Or => exact pw_or1 (ht x hx)
    | [], hx => cases hx
    | _ :: _ :: _, hx => cases hx
  o := fun xs _ hx => by rw [h] at hx; cases hx
  l := fun scope body hx => by rw [h] at hx; cases hx
theorem CkOk.of {e : Ex} {f : Expr → Bool} (G : Good S c X) (h : ck e c = .of f) (he : ∀ x, f x = true → PE X x (tE S e)) : CkOk S c X e :=
  CkOk.of2 G h he fun x hx => by
    rw [Bool.and_eq_true] at hx
    exact s_test G hx.1 (he x hx.2)
theorem nameB_of {i : Nat} {n : Str} (h : nameB c i n = true) : c.N[i]? = some n ∧ visB c.sc n = true := by
  unfold nameB at h
  rw [Bool.and_eq_true] at h
  exact ⟨of_decide_eq_true h.1, h.2⟩
theorem fold_of {iter : Expr} {env : PySem.Env} (h : notSet iter = true) : ∀ x, foldedSetIterable iter env x = pure x := by
  intro x
  cases iter <;> first | rfl | cases h
theorem part_of {e : Ex} {f : Expr → Bool} (he : ∀ x, f x = true → PE X x (tE S e)) {o : Option Expr} (h : partB e f o = true) : PO X o (tP S e) := by
  cases o with
  | none =>
    cases e <;> first | exact p_none | cases h
  | some x =>
    have h : (!isNil e && f x) = true := h
    rw [Bool.and_eq_true, Bool.not_eq_true'] at h
    exact p_some (he x h.2) h.1
end
end Ev

set_option Elab.async false
set_option autoImplicit false
set_option linter.all false
set_option maxRecDepth 100000
set_option maxHeartbeats 2000000
/-! What the checker lets pass, the machine does. -/
namespace Ev
open PySem PySem.Spec PyProof.Rows L2
section
variable {S : Sx} {c : Ck} {X : Cx}
theorem CkOk.noE {q : Ex} {f : List Expr → Bool} {g : Expr → Expr → Bool} {h : Scope → Expr → Bool} (hq : ck q c = { Chks.no with a := f, i := g, l := h }) (ha : ∀ xs, f xs = true → PA X xs (tA S q)) (hi : ∀ tg x, g tg x = true → PI X tg x (tI S q) ∧ notSet x = true)
    (ho : ∀ xs, allArgs q = true → f xs = true → valsOk S X q xs) (hl : ∀ scope body, h scope body = true → ∀ (S' : Sx) (X' : Cx), Good S' (c.lamb scope) X' → PE X' body (tE S' (lamOf q))) : CkOk S c X q where
  e := fun x hx => by rw [hq] at hx; cases hx
  t := fun x hx => by
    rw [hq] at hx
    have hx : (plainT x && false) = true := hx
    rw [Bool.and_false] at hx
    cases hx
  a := fun xs hx => ha xs (by rw [hq] at hx; exact hx)
  i := fun tg x hx => hi tg x (by rw [hq] at hx; exact hx)
  v := fun o xs pos hx => by
    rw [hq] at hx
    match xs, hx with
    | [x], hx => cases hx
    | [], hx => cases hx
    | _ :: _ :: _, hx => cases hx
  w := fun o xs pos hx => by
    rw [hq] at hx
    match xs, hx with
    | [x], hx =>
      have hx : (plainT x && false) = true := hx
      rw [Bool.and_false] at hx
      cases hx
    | [], hx => cases hx
    | _ :: _ :: _, hx => cases hx
  o := fun xs ha hx => ho xs ha (by rw [hq] at hx; exact hx)
  l := fun scope body hx => hl scope body (by rw [hq] at hx; exact hx)
theorem CkOk.two (o : BoolOp) {q : Ex} {A B : Chks} (G : Good S c X) (hq : ck q c = .two o A B) (V : ∀ xs pos, c_tail A.e (B.v o) xs = true → PE X (.BoolOp o xs pos) (tE S q)) (W : ∀ xs pos, c_tail A.t (B.w o) xs = true → PW X (.BoolOp o xs pos) (tT S q)) : CkOk S c X q := by
  have E : ∀ x, c_bool o (c_tail A.e (B.v o)) x = true → PE X x (tE S q) := fun x hx => by
    unfold c_bool at hx
    split at hx
    · rw [Bool.and_eq_true] at hx
      have e := of_decide_eq_true hx.1
      subst e
      exact V _ _ hx.2
    · cases hx
  have T : ∀ x, c_bool o (c_tail A.t (B.w o)) x = true → PT X x (tT S q) := fun x hx => by
    unfold c_bool at hx
    split at hx
    · rw [Bool.and_eq_true] at hx
      have e := of_decide_eq_true hx.1
      subst e
      exact (W _ _ hx.2).pt
    · cases hx
  refine ⟨fun x hx => E x (by rw [hq] at hx; exact hx), fun x hx => T x (by rw [hq] at hx; exact hx), fun xs hx => (by rw [hq] at hx; cases hx), fun tg x hx => ?_, fun p xs pos hx => ?_, fun p xs pos hx => ?_, fun xs _ hx => (by rw [hq] at hx; cases hx), fun sc b hx => (by rw [hq] at hx; cases hx)⟩
  · rw [hq] at hx
    have hx : (notSet x && c_bool o (c_tail A.e (B.v o)) x) = true := hx
    rw [Bool.and_eq_true] at hx
    exact ⟨i_seq G (E x hx.2), hx.1⟩
  · rw [hq] at hx
    have hx : c_more o (c_bool o (c_tail A.e (B.v o))) (c_tail A.e (B.v o)) p xs = true := hx
    unfold c_more at hx
    split at hx
    · exact pe_one (E _ hx)
    · rw [Bool.and_eq_true] at hx
      have e := of_decide_eq_true hx.1
      subst e
      exact V _ pos hx.2
  · rw [hq] at hx
    have hx : c_more o (c_bool o (c_tail A.t (B.w o))) (c_tail A.t (B.w o)) p xs = true := hx
    unfold c_more at hx
    split at hx
    · cases p with
      | And => exact pw_and1 (T _ hx)
      | Or => exact pw_or1 (T _ hx)
    · rw [Bool.and_eq_true] at hx
      have e := of_decide_eq_true hx.1
      subst e
      exact W _ pos hx.2
theorem glK_of {k : Nat} {n : Str} (h : glK c k n = true) : ∃ d, c.T.gls[k]? = some (n, d) := by
  unfold glK at h
  split at h
  · rename_i m d hk
    cases of_decide_eq_true h
    exact ⟨d, hk⟩
  · cases h
theorem glT_of {k : Nat} {n : Str} (h : glT c k n = true) : ∃ ds, c.T.gls[k]? = some (n, .tuple ds) := by
  unfold glT at h
  split at h
  · rename_i m d hk
    cases of_decide_eq_true h
    exact ⟨d, hk⟩
  · cases h
theorem Good.lamb (G : Good S c X) (hc : c.calm = true) (hsu : c.sui = false) (hln : c.lmn = none) {l : Nat} (hl : S.lv = l + 2) {A : Around} {outer : List PySem.Env} {s : Shared} {H : Hp} {E : XK} {scope : Scope} {f c' : Addr} (hr : Room (l + 1) (A.deeper (LamX.lamEnv X scope s.heap.objs.size f c'))) :
    Good { S.lev l with W := fun cls d _ H => E cls d H, s := S.s.base } (c.lamb scope) (LamX.lamCx X A outer s H E scope f c') where
  T := G.T
  K := G.K
  mg := G.mg
  sc := rfl
  N := G.N
  nd := G.nd
  hu := by
    have := hr.un
    show (A.deeper (LamX.lamEnv X scope s.heap.objs.size f c')).units + 150 < cLine
    omega
  calm := fun _ => rfl
  gd := fun h => absurd (show false = true from h) Bool.false_ne_true
  tk := takes_of rfl rfl rfl rfl
  gl := G.gl
  gt := G.gt
  fr := G.fr
  mm := rfl
  rm := fun _ => hr
  cl := fun l' f x ps g h0 h1 h2 => ⟨(G.cl l' f x ps g (by
    have h0 : l' ≤ l := h0
    omega) h1 h2).ex⟩
  lw := fun l' f x h0 h1 => ⟨(G.lw l' f x (by
    have h0 : l' ≤ l := h0
    omega) h1).run⟩
  ex := G.ex
  ek := G.ek
  ev := G.ev
  ec := G.ec
  xn := fun _ => rfl
  xs := fun a k h => nomatch (show (none : Option (Addr × Nat)) = some (a, k) from h)
  ac := fun a h => by
    have h : c.lmn = some a := h
    rw [hln] at h
    cases h
  ln := fun _ _ => rfl
  fn := fun x h => nomatch (show (none : Option NameKind) = some .cell from h)
  po := fun h => absurd (show false = true from h) Bool.false_ne_true
  tp := fun h => absurd (show false = true from h) Bool.false_ne_true
  lm := fun h => absurd (show false = true from h) Bool.false_ne_true
theorem tyB_of {a : Ex} {ts : List Ty} {x : Expr} {r : List Expr} {p pos : Pos} (G : Good S c X) (hg : glB c.sc "isinstance" = true) (hst : notStar x = true) (ha : PE X x (tE S a)) (h : tyB c ts r = true) : PE X (.Call (.Name "isinstance" p) (x :: r) [] pos) (tE S (.isi a ts)) := by
  unfold tyB at h
  split at h
  · rw [Bool.and_eq_true] at h
    have e := of_decide_eq_true h.1
    subst e
    exact s_isi1 G hg h.2 hst ha
  · simp only [Bool.and_eq_true] at h
    exact s_isiT G hg h.1.1 (of_decide_eq_true h.1.2) h.2 hst ha
  · cases h
theorem ck_call {f : Nat} {es : Ex} (ih : ∀ (S : Sx) (c : Ck) (X : Cx), Good S c X → CkOk S c X es) (G : Good S c X) (x : Expr) (hx : c_call c f es (ck es c).l (ck es c).a x = true) : PE X x (tR S (.call f es)) := by
  unfold c_call at hx
  split at hx
  · rename_i n p args pos
    simp only [Bool.and_eq_true, Bool.not_eq_true', decide_eq_true_eq] at hx
    obtain ⟨⟨⟨⟨⟨hc, hsu⟩, hlm⟩, hne⟩, hg⟩, hx⟩ := hx
    have hlm : c.lmn = none := by cases h : c.lmn <;> first | rfl | (rw [h] at hlm; cases hlm)
    split at hx
    · rename_i hil
      have hes : ∃ b, es = .cons (.lam b) .nil := by
        unfold isLam at hil
        split at hil
        · exact ⟨_, rfl⟩
        · cases hil
      obtain ⟨b, rfl⟩ := hes
      unfold c_lam at hx
      split at hx
      · rename_i body scope lpos
        simp only [Bool.and_eq_true, decide_eq_true_eq] at hx
        obtain ⟨⟨⟨⟨h1, h2⟩, h3⟩, h4⟩, h5⟩ := hx
        have ihb := (ih S c X G).l scope body h5
        rw [G.T] at h2
        obtain ⟨run⟩ := G.lw S.lv f n (Nat.le_refl _) h2
        have eS : S.lev S.lv = S := by show { S with M := S.gm S.lv } = S; rw [← G.mm]
        have eb : S.s = S.s.base := by
          have h1 := G.xn hsu
          have h2 := G.ln hc hlm
          cases hs : S.s with
          | mk tb xc lm =>
            rw [hs] at h1 h2
            cases h1
            cases h2
            rfl
        have q := run X S.W rfl rfl G.K G.mg rfl (G.rm hc) G.tk (gl_of G hg) (by rw [G.N]; exact h3) (G.lm h1) ⟨[], [], none, [], [], none, []⟩ body scope p lpos pos b (by rw [G.sc]; exact LamX.lamS_by h4) rfl (fun _ _ _ _ _ => rfl) (fun l hl A outer s H E f c' hr => ihb _ _ (G.lamb hc hsu hlm hl hr))
        have eS2 : { S.lev S.lv with W := S.W, s := S.s.base } = S := by
          rw [eS, ← eb]
        rw [eS2] at q
        exact q
      · cases hx
    · simp only [Bool.and_eq_true] at hx
      obtain ⟨⟨⟨h1, h2⟩, h3⟩, h4⟩ := hx
      unfold callB at h1
      cases hf : c.T.fns[f]? with
      | none => rw [hf] at h1; cases h1
      | some q =>
        obtain ⟨y, ps, g⟩ := q
        rw [hf] at h1
        simp only [Bool.and_eq_true, decide_eq_true_eq, Bool.or_eq_true, Bool.not_eq_true'] at h1
        obtain ⟨e1, e2⟩ := h1
        subst e1
        refine r_call (gd := g) (ps := ps) G hc hsu hlm (by rw [← G.T]; exact hf) hne (fun hgg => ?_) hg h2 (fun he => ?_) ((ih S c X G).a args h4)
        · rcases e2 with e2 | e2
          · rw [e2] at hgg; cases hgg
          · exact e2
        · subst he
          simp at h3
          exact h3
  · cases hx
theorem ck_ok : ∀ (q : Ex) (S : Sx) (c : Ck) (X : Cx), Good S c X → CkOk S c X q := by
  intro q
  induction q with
  | var i =>
    intro S c X G
    refine .of G rfl fun x hx => ?_
    unfold c_var at hx
    split at hx
    · obtain ⟨h1, h2⟩ := nameB_of hx
      exact s_var G h1 h2
    · cases hx
  | non  =>
    intro S c X G
    refine .of G rfl fun x hx => ?_
    unfold c_non at hx
    split at hx
    · exact s_lit pe_non (fun _ _ => rfl) (fun _ _ => .non) rfl
    · cases hx
  | bl b =>
    intro S c X G
    refine .of G rfl fun x hx => ?_
    unfold c_bl at hx
    split at hx
    · have e := eq_of_beq hx
      subst e
      exact s_lit pe_bl (fun _ _ => rfl) (fun _ _ => .bl b) rfl
    · cases hx
  | int i =>
    intro S c X G
    refine .of G rfl fun x hx => ?_
    unfold c_int at hx
    split at hx
    · have e := of_decide_eq_true hx
      subst e
      exact s_lit pe_int (fun _ _ => rfl) (fun _ _ => .int i) rfl
    · cases hx
  | str s =>
    intro S c X G
    refine .of G rfl fun x hx => ?_
    unfold c_str at hx
    split at hx
    · have e := of_decide_eq_true hx
      subst e
      exact s_lit pe_str (fun _ _ => rfl) (fun _ _ => .str s) rfl
    · cases hx
  | glb k =>
    intro S c X G
    refine .of G rfl fun x hx => ?_
    unfold c_glb at hx
    split at hx
    · rw [Bool.and_eq_true] at hx
      obtain ⟨d, hk⟩ := glK_of hx.2
      rw [G.T] at hk
      exact s_glb G hk hx.1
    · cases hx
  | tup es ih =>
    intro S c X G
    refine .of G rfl fun x hx => ?_
    unfold c_tup at hx
    split at hx
    · rw [Bool.and_eq_true] at hx
      exact s_tup (of_decide_eq_true hx.1) ((ih S c X G).a _ hx.2)
    · cases hx
  | lst es ih =>
    intro S c X G
    refine .of G rfl fun x hx => ?_
    unfold c_lst at hx
    split at hx
    · rw [Bool.and_eq_true] at hx
      exact s_lst (of_decide_eq_true hx.1) ((ih S c X G).a _ hx.2)
    · cases hx
  | bin o a b iha ihb =>
    intro S c X G
    refine .of G rfl fun x hx => ?_
    unfold c_bin at hx
    split at hx
    · simp only [Bool.and_eq_true, decide_eq_true_eq] at hx
      obtain ⟨⟨e, h1⟩, h2⟩ := hx
      subst e
      exact s_bin G ((iha S c X G).e _ h1) ((ihb S c X G).e _ h2)
    · cases hx
  | neg a ih =>
    intro S c X G
    refine .of G rfl fun x hx => ?_
    unfold c_neg at hx
    split at hx
    · exact s_neg ((ih S c X G).e _ hx)
    · cases hx
  | ite k a b ihk iha ihb =>
    intro S c X G
    refine .of G rfl fun x hx => ?_
    unfold c_ite at hx
    split at hx
    · simp only [Bool.and_eq_true] at hx
      exact s_ite ((ihk S c X G).t _ hx.1.1) ((iha S c X G).e _ hx.1.2) ((ihb S c X G).e _ hx.2)
    · cases hx
  | idx a i iha ihi =>
    intro S c X G
    refine .of G rfl fun x hx => ?_
    unfold c_idx at hx
    split at hx
    · simp only [Bool.and_eq_true] at hx
      exact s_idx G ((iha S c X G).e _ hx.1.2) ((ihi S c X G).e _ hx.2) (plain_of hx.1.1)
    · cases hx
  | tix i k ih =>
    intro S c X G
    refine .of G rfl fun x hx => ?_
    unfold c_tix at hx
    split at hx
    · simp only [Bool.and_eq_true] at hx
      obtain ⟨h1, h2⟩ := nameB_of hx.1.1
      exact s_tix G h1 h2 ((ih S c X G).e _ hx.2) (plain_of hx.1.2)
    · cases hx
  | scs i lo hi ihl ihh =>
    intro S c X G
    refine .of G rfl fun x hx => ?_
    unfold c_scs at hx
    split at hx
    · simp only [Bool.and_eq_true] at hx
      obtain ⟨h1, h2⟩ := nameB_of hx.1.1
      exact s_scs G h1 h2 (part_of (ihl S c X G).e hx.1.2) (part_of (ihh S c X G).e hx.2)
    · cases hx
  | sli a lo hi iha ihl ihh =>
    intro S c X G
    refine .of G rfl fun x hx => ?_
    unfold c_sli at hx
    split at hx
    · simp only [Bool.and_eq_true] at hx
      exact s_sli G ((iha S c X G).e _ hx.1.1) (part_of (ihl S c X G).e hx.1.2) (part_of (ihh S c X G).e hx.2)
    · cases hx
  | bi b es ih =>
    intro S c X G
    refine .of G rfl fun x hx => ?_
    unfold c_bi at hx
    split at hx
    · simp only [Bool.and_eq_true, decide_eq_true_eq, Bool.or_eq_true, Bool.not_eq_true', decide_eq_false_iff_not] at hx
      obtain ⟨⟨⟨⟨⟨e, h1⟩, h2⟩, h3⟩, h4⟩, h5⟩ := hx
      subst e
      exact s_bi G h1 (fun e => h2.resolve_left fun z => z e) h3 h4 ((ih S c X G).a _ h5)
    · cases hx
  | isi a ts ih =>
    intro S c X G
    refine .of G rfl fun x hx => ?_
    unfold c_isi at hx
    split at hx
    · simp only [Bool.and_eq_true, decide_eq_true_eq] at hx
      obtain ⟨⟨⟨⟨e, h1⟩, h2⟩, h3⟩, h4⟩ := hx
      subst e
      exact tyB_of G h1 h2 ((ih S c X G).e _ h3) h4
    · cases hx
  | met m o b iho ihb =>
    intro S c X G
    refine .of G rfl fun x hx => ?_
    unfold c_met at hx
    split at hx
    · simp only [Bool.and_eq_true, decide_eq_true_eq] at hx
      obtain ⟨⟨⟨⟨⟨e, h1⟩, h2⟩, h3⟩, h4⟩, h5⟩ := hx
      subst e
      exact s_met G ((iho S c X G).e _ h4) ((ihb S c X G).a _ h5) h3 (base_of h2) h1
    · cases hx
  | gix k a ih =>
    intro S c X G
    refine .of G rfl fun x hx => ?_
    unfold c_gix at hx
    split at hx
    · simp only [Bool.and_eq_true, decide_eq_true_eq] at hx
      obtain ⟨⟨⟨⟨⟨e, h1⟩, h2⟩, h3⟩, h4⟩, h5⟩ := hx
      subst e
      obtain ⟨ds, hk⟩ := glT_of h5
      rw [G.T] at hk
      exact s_gix G hk h2 ((ih S c X G).e _ h4) h3 h1 (base_of rfl)
    · cases hx
  | isx i k =>
    intro S c X G
    refine .of G rfl fun x hx => ?_
    unfold c_isx at hx
    split at hx
    · simp only [Bool.and_eq_true, decide_eq_true_eq] at hx
      obtain ⟨⟨⟨⟨e, h1⟩, h2⟩, h3⟩, h4⟩ := hx
      subst e
      obtain ⟨e1, e2⟩ := nameB_of h2
      split at h4
      · rename_i h1000
        have e := of_decide_eq_true h4
        subst e h1000
        exact s_isv G e1 e2 h1 h3
      · rename_i h1000
        simp only [Bool.and_eq_true, decide_eq_true_eq] at h4
        exact s_isx G e1 e2 h1 (by rw [← G.T]; exact h4.2) h4.1 h3 h1000
    · cases hx
  | cmp o a b iha ihb =>
    intro S c X G
    have key : ∀ x, c_cmp o (ck a c).e (ck b c).e x = true → PE X x (tE S (.cmp o a b)) ∧ PT X x (tT S (.cmp o a b)) := fun x hx => by
      unfold c_cmp at hx
      split at hx
      · rename_i y p z pos
        simp only [Bool.and_eq_true, decide_eq_true_eq] at hx
        obtain ⟨⟨⟨e, h0⟩, h1⟩, h2⟩ := hx
        subst e
        exact s_cmp G ((iha S c X G).e _ h1) ((ihb S c X G).e _ h2) (by cases z <;> first | rfl | cases h0)
      · cases hx
    exact .of2 G rfl (fun x hx => (key x hx).1) fun x hx => (key x hx).2
  | cm2 o q a b d iha ihb ihd =>
    intro S c X G
    have key : ∀ x, c_cm2 o q (ck a c).e (ck b c).e (ck d c).e x = true → PE X x (tE S (.cm2 o q a b d)) ∧ PT X x (tT S (.cm2 o q a b d)) := fun x hx => by
      unfold c_cm2 at hx
      split at hx
      · rename_i y p p2 z w pos
        simp only [Bool.and_eq_true, decide_eq_true_eq] at hx
        obtain ⟨⟨⟨⟨⟨e, e2⟩, h0⟩, h1⟩, h2⟩, h3⟩ := hx
        subst e e2
        exact s_cm2 G ((iha S c X G).e _ h1) ((ihb S c X G).e _ h2) ((ihd S c X G).e _ h3) (by
          show behindInMarks (cop q) w = false
          cases w <;> first | rfl | cases h0)
      · cases hx
    exact .of2 G rfl (fun x hx => (key x hx).1) fun x hx => (key x hx).2
  | isn a ih =>
    intro S c X G
    have key : ∀ x, c_isn (ck a c).e x = true → PE X x (tE S (.isn a)) ∧ PT X x (tT S (.isn a)) := fun x hx => by
      unfold c_isn at hx
      split at hx
      · exact s_isn ((ih S c X G).e _ hx)
      · cases hx
    exact .of2 G rfl (fun x hx => (key x hx).1) fun x hx => (key x hx).2
  | nsn a ih =>
    intro S c X G
    have key : ∀ x, c_nsn (ck a c).e x = true → PE X x (tE S (.nsn a)) ∧ PT X x (tT S (.nsn a)) := fun x hx => by
      unfold c_nsn at hx
      split at hx
      · exact s_nsn ((ih S c X G).e _ hx)
      · cases hx
    exact .of2 G rfl (fun x hx => (key x hx).1) fun x hx => (key x hx).2
  | not a ih =>
    intro S c X G
    refine .of2 G rfl (fun x hx => ?_) fun x hx => ?_
    · unfold c_not at hx
      split at hx
      · exact s_not G ((ih S c X G).e _ hx)
      · cases hx
    · unfold c_not at hx
      split at hx
      · exact t_not ((ih S c X G).t _ hx)
      · cases hx
  | nil =>
    intro S c X G
    refine .noE (f := List.isEmpty) (g := Chks.no.i) (h := Chks.no.l) rfl (fun xs hx => ?_) (fun tg x hx => ?_) (fun xs _ hx => by cases xs <;> first | exact True.intro | cases hx) fun sc b hx => by cases hx
    · cases xs with
      | nil => exact s_nil
      | cons _ _ => cases hx
    · have hx : (notSet x && false) = true := hx
      rw [Bool.and_false] at hx
      cases hx
  | cons u q ihu ihq =>
    intro S c X G
    refine .noE (g := Chks.no.i) rfl (fun xs hx => ?_) (fun tg x hx => ?_) (fun xs ha hx => ?_) fun sc b hx S' X' G' => (ihu S c X G).l sc b hx S' X' G'
    · cases xs with
      | nil => cases hx
      | cons x r =>
        have hx : (notStar x && c_arg c (ck u c).e u x && (ck q c).a r) = true := hx
        simp only [Bool.and_eq_true] at hx
        obtain ⟨⟨h1, h2⟩, h3⟩ := hx
        have hq := (ihq S c X G).a r h3
        unfold c_arg at h2
        split at h2
        · obtain ⟨e1, e2⟩ := nameB_of h2
          exact s_tpv G e1 e2 hq
        · obtain ⟨e1, e2⟩ := nameB_of h2
          exact s_scv G e1 e2 hq
        · simp only [Bool.and_eq_true] at h2
          exact s_cons (fun rr t => by cases u <;> first | rfl | cases h2.1) ((ihu S c X G).e x h2.2) hq (star_of h1)
    · have hx : (notSet x && false) = true := hx
      rw [Bool.and_false] at hx
      cases hx
    · cases xs with
      | nil => cases hx
      | cons x r =>
        have hx : (notStar x && c_arg c (ck u c).e u x && (ck q c).a r) = true := hx
        have ha : (plainArg u && allArgs q) = true := ha
        simp only [Bool.and_eq_true] at hx ha
        obtain ⟨⟨h1, h2⟩, h3⟩ := hx
        refine ⟨(ihu S c X G).e x ?_, fun rr t => (by cases u <;> first | rfl | cases ha.1), (ihq S c X G).o r ha.2 h3⟩
        unfold c_arg at h2
        split at h2
        · cases ha.1
        · cases ha.1
        · simp only [Bool.and_eq_true] at h2
          exact h2.2
  | lam b ih =>
    intro S c X G
    refine .noE (f := Chks.no.a) (g := Chks.no.i) rfl (fun xs hx => by cases hx) (fun tg x hx => ?_) (fun xs _ hx => by cases hx) fun sc bd hx S' X' G' => (ih S' _ X' G').e bd hx
    have hx : (notSet x && false) = true := hx
    rw [Bool.and_false] at hx
    cases hx
  | and a b iha ihb =>
    intro S c X G
    refine .two .And G rfl (fun xs pos hx => ?_) fun xs pos hx => ?_
    · unfold c_tail at hx
      split at hx
      · rw [Bool.and_eq_true] at hx
        exact s_and G ((iha S c X G).e _ hx.1) ((ihb S c X G).v _ _ pos hx.2)
      · cases hx
    · unfold c_tail at hx
      split at hx
      · rw [Bool.and_eq_true] at hx
        exact t_and ((iha S c X G).t _ hx.1) ((ihb S c X G).w _ _ pos hx.2)
      · cases hx
  | or a b iha ihb =>
    intro S c X G
    refine .two .Or G rfl (fun xs pos hx => ?_) fun xs pos hx => ?_
    · unfold c_tail at hx
      split at hx
      · rw [Bool.and_eq_true] at hx
        exact s_or G ((iha S c X G).e _ hx.1) ((ihb S c X G).v _ _ pos hx.2)
      · cases hx
    · unfold c_tail at hx
      split at hx
      · rw [Bool.and_eq_true] at hx
        exact t_or ((iha S c X G).t _ hx.1) ((ihb S c X G).w _ _ pos hx.2)
      · cases hx
  | dic ks vs ihk ihv =>
    intro S c X G
    refine .of G rfl fun x hx => ?_
    unfold c_dic at hx
    split at hx
    · rw [Bool.and_eq_true] at hx
      have e1 := of_decide_eq_true hx.1
      have e2 := of_decide_eq_true hx.2
      subst e1 e2
      exact s_dnew
    · rename_i keys values pos _
      simp only [Bool.and_eq_true, decide_eq_true_eq, Bool.not_eq_true'] at hx
      obtain ⟨⟨⟨⟨⟨⟨⟨⟨h1, h2⟩, h3⟩, h4⟩, h5⟩, h6⟩, h7⟩, h8⟩, h9⟩ := hx
      refine s_dic h1 ((ihv S c X G).o _ h2 h3) h4 (fun e => by rw [e] at h5; cases h5) h6 h7 h8 h9
    · cases hx
  | call f es ih =>
    intro S c X G
    exact .of G rfl fun x hx => e_call (ck_call (fun S c X G => ih S c X G) G x hx)
  | comp p it k e ihi ihk ihe =>
    intro S c X G
    refine .of G rfl fun x hx => ?_
    unfold c_comp at hx
    split at hx
    · simp only [Bool.and_eq_true, Bool.not_eq_true'] at hx
      obtain ⟨⟨⟨⟨⟨⟨⟨⟨hc, hsu⟩, hlm⟩, h1⟩, h2⟩, h3⟩, h4⟩, h5⟩, h6⟩ := hx
      have hlm : c.lmn = none := by cases h : c.lmn <;> first | rfl | (rw [h] at hlm; cases hlm)
      refine s_comp hsu hlm G hc ((ihi S c X G).i _ _ h3).1 h1 h2 (fun X' G' => ?_) (fun X' G' => (ihe _ _ X' G').e _ h6) (fold_of h4)
      unfold c_ifs at h5
      split at h5
      · cases k <;> first | exact ts_nil | cases h5
      · simp only [Bool.and_eq_true, Bool.not_eq_true'] at h5
        exact ts_one h5.1 ((ihk _ _ X' G').t _ h5.2)
      · cases h5
    · cases hx
  | rng a b iha ihb =>
    intro S c X G
    refine .noE (f := Chks.no.a) (h := Chks.no.l) rfl (fun xs hx => by cases hx) (fun tg x hx => ?_) (fun xs _ hx => by cases hx) fun sc b hx => by cases hx
    unfold c_rng at hx
    split at hx
    · simp only [Bool.and_eq_true, decide_eq_true_eq] at hx
      obtain ⟨⟨⟨⟨e, h1⟩, h2⟩, h3⟩, h4⟩ := hx
      subst e h3
      exact ⟨i_rng1 G h1 h2 ((ihb S c X G).e _ h4), rfl⟩
    · simp only [Bool.and_eq_true, decide_eq_true_eq] at hx
      obtain ⟨⟨⟨⟨⟨e, h1⟩, h2⟩, h3⟩, h4⟩, h5⟩ := hx
      subst e
      exact ⟨i_rng2 G h1 h2 h3 ((iha S c X G).e _ h4) ((ihb S c X G).e _ h5), rfl⟩
    · cases hx
  | enu a s iha ihs =>
    intro S c X G
    refine .noE (f := Chks.no.a) (h := Chks.no.l) rfl (fun xs hx => by cases hx) (fun tg x hx => ?_) (fun xs _ hx => by cases hx) fun sc b hx => by cases hx
    have hx : (isTupE tg && c_enu c s (ck a c).e (ck s c).e x) = true := hx
    rw [Bool.and_eq_true] at hx
    obtain ⟨ht, hz⟩ := hx
    cases tg <;> first | (cases ht; done) | skip
    unfold c_enu at hz
    split at hz
    · simp only [Bool.and_eq_true, decide_eq_true_eq] at hz
      obtain ⟨⟨⟨⟨⟨e, h1⟩, h2⟩, h3⟩, h4⟩, h5⟩ := hz
      subst e
      refine ⟨i_enu G h1 h2 h3 ((iha S c X G).e _ h4) ?_, rfl⟩
      unfold c_ifs at h5
      split at h5
      · cases s <;> first | exact .inl ⟨rfl, rfl⟩ | cases h5
      · simp only [Bool.and_eq_true, Bool.not_eq_true'] at h5
        exact .inr ⟨h5.1, _, rfl, (ihs S c X G).e _ h5.2⟩
      · cases h5
    · cases hz
  | zip a b iha ihb =>
    intro S c X G
    refine .noE (f := Chks.no.a) (h := Chks.no.l) rfl (fun xs hx => by cases hx) (fun tg x hx => ?_) (fun xs _ hx => by cases hx) fun sc b hx => by cases hx
    have hx : (isTupE tg && c_zip c (ck a c).e (ck b c).e x) = true := hx
    rw [Bool.and_eq_true] at hx
    obtain ⟨ht, hz⟩ := hx
    cases tg <;> first | (cases ht; done) | skip
    unfold c_zip at hz
    split at hz
    · simp only [Bool.and_eq_true, decide_eq_true_eq] at hz
      obtain ⟨⟨⟨⟨⟨e, h1⟩, h2⟩, h3⟩, h4⟩, h5⟩ := hz
      subst e
      exact ⟨i_zip G h1 h2 h3 ((iha S c X G).e _ h4) ((ihb S c X G).e _ h5), rfl⟩
    · cases hz
  | tpv _ | scv _ | rev _ | dcom _ _ _ _ | comp2 _ _ _ _ _ _ | rn3 _ _ _ | vals _ | its _ | lof _ | act _ | plc _ | srt _ _ _ | rv2 _ | tof _ => exact fun S c X G => .of G rfl fun x hx => by cases hx
end
end Ev

set_option Elab.async false
set_option autoImplicit false
set_option linter.all false
set_option maxRecDepth 100000
set_option maxHeartbeats 2000000
/-! The checker of statements. -/
namespace Ev
open PySem PySem.Spec PyProof.Rows L2
/-! ### at a statement's root -/
def ckR : Ex → Ck → Expr → Bool
  | .call f es, c, x => c_call c f es (ck es c).l (ck es c).a x
  | .ite k a b, c, .IfExp z y w _ => (ck k c).t z && ckR a c y && ckR b c w
  | .ite _ _ _, _, _ => false
  | e, c, x => rootless e && (ck e c).e x
section
variable {S : Sx} {c : Ck} {X : Cx} {B : Bs} {aT : TpA} {F F1 F2 : Addr → Prop} {H0 H H1 H2 : Hp} {s : Stt} {σ : L2.St} {t1 t2 : Tp} {D : Ends}
theorem ckR_ok (G : Good S c X) : ∀ (e : Ex) (x : Expr), ckR e c x = true → PE X x (tR S e) := by
  intro e
  induction e with
  | call f es _ => exact fun x hx => ck_call (fun S c X G => ck_ok es S c X G) G x hx
  | ite k a b _ iha ihb =>
    intro x hx
    cases x with
    | IfExp z y w p =>
      have hx : ((ck k c).t z && ckR a c y && ckR b c w) = true := hx
      simp only [Bool.and_eq_true] at hx
      exact r_ite ((ck_ok k S c X G).t z hx.1.1) (iha y hx.1.2) (ihb w hx.2)
    | _ => cases hx
  | _ =>
    intro x hx
    have hx : (true && (ck _ c).e x) = true := hx
    rw [Bool.true_and] at hx
    exact r_of rfl ((ck_ok _ S c X G).e x hx)
/-! ### name = [..] -/
def swB (c : Ck) (y : Str) (p : Pos) (scope : Scope) (pos : Pos) : Bool :=
  (if c.sc.kind.isAnnotationScope then ScopeKind.function else c.sc.kind) == .function && c.sc.names.lookup y == some .local && p.line == pos.line && !(scope.names.any fun (n, k) => n == y && (k == .local || k == .cell))
theorem sw_lc (G : Good S c X) {elt : Expr} {gs : List Comprehension} {scope : Scope} {pos p : Pos} {y : Str} {l : Nat} : swapsWith (.ListComp elt gs scope pos) (some (.Name y p)) l X.env = pure (swB c y p scope pos) := by
  unfold swapsWith swB Env.blockKind Env.kindOf
  rw [G.sc]
  rfl
theorem s_setLc {i : Nat} {p : Pa} {it k e : Ex} {y : Str} {elt tg iter : Expr} {ifs : List Expr} {scope : Scope} {py pos spos : Pos} (G : Good S c X) (hN : c.N[i]? = some y) (hsw : swB c y py scope pos = true)
    (hx : c_comp c p k (ck it c).i (fun scope => (ck k (c.blk scope)).t) (fun scope => (ck e (c.blk scope)).e) (.ListComp elt [⟨tg, iter, ifs, 0⟩] scope pos) = true) : PS X (.Assign [.Name y py] (.ListComp elt [⟨tg, iter, ifs, 0⟩] scope pos) spos) (tS S (.set (.nm i) (.comp p it k e))) := by
  unfold c_comp at hx
  simp only [Bool.and_eq_true, Bool.not_eq_true'] at hx
  obtain ⟨⟨⟨⟨⟨⟨⟨⟨hc, hsu⟩, hlm⟩, h1⟩, h2⟩, h3⟩, h4⟩, h5⟩, h6⟩ := hx
  have hlm : c.lmn = none := by cases h : c.lmn <;> first | rfl | (rw [h] at hlm; cases hlm)
  have hl : c.sc.names.lookup y = some .local := by
    unfold swB at hsw
    simp only [Bool.and_eq_true] at hsw
    exact eq_of_beq hsw.1.1.2
  have ok : BlkOk X.N X.env.scope scope ((slotsP p).map fun i => (c.N.getD i "", i)) := by rw [G.N, G.sc]; exact blkOk_by h1
  have Lc := ps_setLc (i := i) (y := y) (py := py) (pos := pos) (spos := spos) (elt := elt) (ifs := ifs) (tt := tTs S.nox k) (te := tE S.nox e) (G.calm hc) G.nd (by rw [G.N]; exact hN) (by rw [G.sc]; exact hl) (by rw [sw_lc G, hsw]) ((ck_ok it S c X G).i _ _ h3).1 ok
    (fun s H C cl fp => g_pa (G.blk hsu hlm scope s H C cl fp) hc p tg h2) (fun s H C cl fp => by
      have G' := G.blk hsu hlm scope s H C cl fp
      unfold c_ifs at h5
      split at h5
      · cases k <;> first | exact ts_nil | cases h5
      · simp only [Bool.and_eq_true, Bool.not_eq_true'] at h5
        exact ts_one h5.1 ((ck_ok k _ _ _ G').t _ h5.2)
      · cases h5) (fun s H C cl fp => (ck_ok e _ _ _ (G.blk hsu hlm scope s H C cl fp)).e _ h6) (fold_of h4)
  rw [own_snd] at Lc
  refine psOf Lc fun D σ H h => ?_
  have h := set_key h
  have h2 : tE S (.comp p it k e) σ H (fun x H1 => gName i x σ H1 D.nx) := by
    obtain ⟨aT, F, fl, r, t, hst, R, h⟩ := h
    have e1 : evR S.M (.comp p it k e) r t = (ev S.M (.comp p it k e) r t).bind fun x t => .ok (x, fresh (.comp p it k e)) t := by
      unfold evR
      rfl
    rw [e1] at h
    exact ⟨aT, F, fl, r, t, hst, R, h.bind⟩
  exact comp_key h2
/-! ### a, b = .. -/
def parB (c : Ck) (x y : Str) (px py : Pos) (u w : Expr) : Bool :=
  (if c.sc.kind.isAnnotationScope then ScopeKind.function else c.sc.kind) == .function && c.sc.names.lookup x == some .local && c.sc.names.lookup y == some .local && py.line == px.line && !(x == y) && notStar u && notStar w && !(foldedForSure 8 u && foldedForSure 8 w) && !(constantsAlone 8 u && constantsAlone 8 w)
theorem par_sw (G : Good S c X) {x y : Str} {px py pt pt2 : Pos} {kt k2 : Nat} {u w : Expr} (h : parB c x y px py u w = true) : swappedStores [.Tuple [.Name x px, .Name y py] kt pt] (.Tuple [u, w] k2 pt2) X.env = pure (some [x, y]) := by
  unfold parB at h
  simp only [Bool.and_eq_true, Bool.not_eq_true'] at h
  obtain ⟨⟨⟨⟨⟨⟨⟨⟨h1, h2⟩, h3⟩, h4⟩, h5⟩, h6⟩, h7⟩, h8⟩, h9⟩ := h
  have e2 := eq_of_beq h2
  have e3 := eq_of_beq h3
  have ns : (match u with | .Starred .. => true | _ => false) = false := by cases u <;> first | rfl | cases h6
  have ns2 : (match w with | .Starred .. => true | _ => false) = false := by cases w <;> first | rfl | cases h7
  have hbk : (X.env.blockKind != .function) = false := by
    unfold Env.blockKind
    rw [G.sc]
    have := eq_of_beq h1
    rw [this]
    rfl
  have k1 : X.env.kindOf x = some .local := by unfold Env.kindOf; rw [G.sc]; exact e2
  have k2' : X.env.kindOf y = some .local := by unfold Env.kindOf; rw [G.sc]; exact e3
  have hxy : (y == x) = false := by
    rw [Bool.eq_false_iff] at h5 ⊢
    intro z
    exact h5 (by rw [eq_of_beq z]; exact beq_self_eq_true _)
  have h4' : py.line = px.line := eq_of_beq h4
  have hyx : ¬ y = x := fun e => by rw [e] at hxy; simp at hxy
  unfold swappedStores
  simp only [hbk, List.length_cons, List.length_nil, Bool.or_false, Bool.false_or, Bool.not_true]
  simp [k1, k2', h4', h8, h9, List.eraseDups, Expr.pos, List.eraseDupsBy, List.eraseDupsBy.loop, hyx, List.filterMap]
  rw [if_neg (by
    rintro (h | h)
    · cases u <;> first | (cases h6; done) | cases h
    · cases w <;> first | (cases h7; done) | cases h)]
  rw [hxy]
  rfl
/-! ### tape = .. -/
theorem s_stp {i : Nat} {e : Ex} {x : Str} {y : Expr} {p pos : Pos} (G : Good S c X) (hsp : S.stp = true) (hN : c.N[i]? = some x) (hl : locB c x = true) (he : PE X y (tR S e)) (hs : swOk y = true) : PS X (.Assign [.Name x p] y pos) (tS S (.stp i e)) := by
  obtain ⟨h1, h2⟩ := loc_of G hl
  refine psOf (ps_set (i := i) G.nd (by rw [G.N]; exact hN) h1 he (sw_ok hs) h2) fun D σ H h => ?_
  obtain ⟨B, aT, F, s, hst, fr, h⟩ := h
  have h : OPost S B (match s.t with
    | none => (evR S.M e s.r s.t).out s fun x t => match x with
      | (.list ts, true) => .nx ⟨s.r.set i (some .tp), fz s.fl (i :: retE e), some ts⟩
      | _ => .bad
    | some _ => .bad) D := h
  cases hT : s.t with
  | some ts => rw [hT] at h; exact h.elim
  | none =>
    have h : OPost S B ((evR S.M e s.r s.t).out s fun x t => match x with
      | (.list ts, true) => .nx ⟨s.r.set i (some .tp), fz s.fl (i :: retE e), some ts⟩
      | _ => .bad) D := by
      rw [hT] at h ⊢
      exact h
    refine ⟨aT, F, _, s.r, s.t, hst, fr.rel, (OPost.out fr hst h).mono (fun x t1 h v H1 F1 g1 R1 V1 => ?_) fun _ _ _ k => k⟩
    obtain ⟨xd, m⟩ := x
    have hcase : (∃ ts, xd = .list ts ∧ m = true) ∨ ¬ ∃ ts, xd = .list ts ∧ m = true := Classical.em _
    rcases hcase with ⟨ts, rfl, rfl⟩ | hno
    · have h : OPost S B (.nx ⟨s.r.set i (some .tp), fz s.fl (i :: retE e), some ts⟩) D := h
      have aN : aT.a = none := fr.rel.none hT
      have t1N : t1 = none := by
        cases ht1 : t1 with
        | none => rfl
        | some ts' =>
          obtain ⟨a, _, e1, _⟩ := R1.tape ts' ht1
          rw [aN] at e1
          cases e1
      have f2 := (fr.step g1 R1).frz (i :: retE e)
      rcases V1 with ⟨z, _⟩ | ⟨_, a, e1, e2, e3, V⟩
      · cases z
      · subst e1
        rcases V with ⟨us, ds, q1, q2, q3⟩ | ⟨_, _, q1, _⟩
        · cases q1
          have nF : ¬ (F1 a ∨ OA (flg s.fl) σ (i :: retE e) a) := fun z => z.elim e3 fun z => by
            obtain ⟨o, q, ht⟩ := OA.there fr z
            exact e2.no q ht
          let aT' : TpA := ⟨some a, fun b => F1 b ∨ OA (flg s.fl) σ (i :: retE e) b, aT.s⟩
          refine h aT' (fun b => F1 b ∨ OA (flg s.fl) σ (i :: retE e) b) (σ.set i (some (.ref a))) H1 hst ?_
          have tp0 : B.a0.a = none := by
            rcases fr.tp with ⟨z, _⟩ | ⟨_, z, _⟩
            · rw [← z]; exact aN
            · exact z
          have nw : Nw B.H0 a := fr.go.no a e2
          refine ⟨⟨⟨f2.rel.dom, fun ts2 h2 => ?_, fun z => (by cases z), f2.rel.tabs⟩, ?_, fun j w hw => ?_, fun j hj => ?_, fun j k b z1 z2 z3 z4 => ?_⟩, f2.go, fun j b z1 z2 => ?_, .inr ⟨hsp, tp0, fun b hb => by cases hb; exact nw⟩, ?_, f2.kp, f2.kf⟩
          · cases h2
            exact ⟨a, us, rfl, q2, nF, fun b z => z, q3.mono fun b z => z.elim .inl fun z => .inr (z.sub fun k hk => List.mem_cons_of_mem _ hk)⟩
          · show (σ.set i (some (.ref a))).length = (s.r.set i (some .tp)).length
            rw [List.length_set, List.length_set, fr.rel.len]
          · have hw : getV (s.r.set i (some .tp)) j = some w := hw
            have hfi : flg (fz s.fl (i :: retE e)) i = false := by
              rw [flg_fz]
              exact Bool.eq_false_iff.mpr fun z => (flx_iff.mp z).2 (by simp)
            rw [getV_set] at hw
            by_cases hij : i = j ∧ i < s.r.length
            · rw [if_pos hij] at hw
              cases hw
              obtain ⟨e1, e2⟩ := hij
              subst e1
              refine ⟨.ref a, by rw [List.getElem?_set_self (by rw [fr.rel.len]; exact e2)], ?_⟩
              unfold SltR
              rw [if_neg (by show ¬ flg (fz s.fl (i :: retE e)) i = true; rw [hfi]; exact Bool.false_ne_true)]
              exact ⟨a, rfl, rfl⟩
            · rw [if_neg hij] at hw
              have hne : i ≠ j := fun e => by
                subst e
                have hl : ¬ i < s.r.length := fun z => hij ⟨rfl, z⟩
                unfold getV at hw
                rw [List.getElem?_eq_none (by omega)] at hw
                cases hw
              obtain ⟨y, y1, y2⟩ := f2.rel.slot j w hw
              refine ⟨y, by rw [List.getElem?_set_ne hne]; exact y1, ?_⟩
              show SltR S.K aT' _ H1 (flg (fz s.fl (i :: retE e)) j) y w
              have y2 : SltR S.K aT _ H1 (flg (fz s.fl (i :: retE e)) j) y w := y2
              unfold SltR at y2 ⊢
              by_cases hf : flg (fz s.fl (i :: retE e)) j = true
              · rw [if_pos hf] at y2 ⊢
                obtain ⟨b, eb, nb, _, q⟩ := y2
                subst eb
                refine ⟨b, rfl, nb, fun z => ?_, q⟩
                cases z
                rw [flg_fz] at hf
                obtain ⟨o, q, ht⟩ := OA.there (is := [j]) fr ⟨j, by simp, (flx_iff.mp hf).1, y1⟩
                exact e2.no q ht
              · rw [if_neg hf] at y2 ⊢
                cases w with
                | tp =>
                  obtain ⟨b, _, z⟩ := y2
                  rw [aN] at z
                  cases z
                | _ => exact y2
          · have hj : flg (fz s.fl (i :: retE e)) j = true := hj
            have hne : i ≠ j := fun e => by
              subst e
              rw [flg_fz] at hj
              exact (flx_iff.mp hj).2 (by simp)
            obtain ⟨w, hw⟩ := f2.rel.own j hj
            exact ⟨w, by show getV (s.r.set i (some .tp)) j = _; rw [getV_set, if_neg fun z => hne z.1]; exact hw⟩
          · have ne : ∀ {j}, flg (fz s.fl (i :: retE e)) j = true → i ≠ j := fun {j} hj e => by
              subst e
              rw [flg_fz] at hj
              exact (flx_iff.mp hj).2 (by simp)
            rw [List.getElem?_set_ne (ne z1)] at z3
            rw [List.getElem?_set_ne (ne z2)] at z4
            exact f2.rel.dis j k b z1 z2 z3 z4
          · have ne : i ≠ j := fun e => by
              subst e
              have z1 : flg (fz s.fl (i :: retE e)) i = true := z1
              rw [flg_fz] at z1
              exact (flx_iff.mp z1).2 (by simp)
            rw [List.getElem?_set_ne ne] at z2
            exact f2.own j b z1 z2
          · show (fz s.fl (i :: retE e)).length = (s.r.set i (some .tp)).length
            rw [fz_len, List.length_set, fr.lf]
        · cases q1
    · refine (show False from ?_).elim
      split at h
      · rename_i ts e1
        cases e1
        exact hno ⟨_, rfl, rfl⟩
      · exact h
end
end Ev

set_option Elab.async false
set_option autoImplicit false
set_option linter.all false
set_option maxRecDepth 100000
set_option maxHeartbeats 2000000
/-! The checker of statements, and what it lets pass. -/
namespace Ev
open PySem PySem.Spec PyProof.Rows L2
structure SChk where
  one : Stmt → Bool
  many : List Stmt → Bool
def SChk.of (f : Stmt → Bool) : SChk := ⟨f, fun xs => match xs with
  | [x] => f x
  | _ => false⟩
def swNo (c : Ck) (n : Str) (p : Pos) : Expr → Bool
  | .ListComp _ _ scope pos => !swB c n p scope pos
  | y => swOk y
def d_set (c : Ck) (i : Nat) (R : Expr → Bool) : Stmt → Bool
  | .Assign [.Name n p] y _ => decide (c.N[i]? = some n) && locB c n && R y && swNo c n p y
  | _ => false
def d_setL (c : Ck) (i : Nat) (E : Expr → Bool) : Stmt → Bool
  | .Assign [.Name n p] (.ListComp elt [⟨tg, iter, ifs, 0⟩] scope pos) _ => decide (c.N[i]? = some n) && swB c n p scope pos && E (.ListComp elt [⟨tg, iter, ifs, 0⟩] scope pos)
  | _ => false
def notTup' : Expr → Bool
  | .Tuple .. => false
  | _ => true
/-- no order of stores to be seen: not a tuple's parts, or a cell among the names -/
def ordB (c : Ck) (es : List Expr) (y : Expr) : Bool := notTup' y || es.any fun e => match e with
  | .Name id _ => !(c.sc.names.lookup id == some .local)
  | _ => false
def d_setP (c : Ck) (p : Pa) (R : Expr → Bool) : Stmt → Bool
  | .Assign [.Tuple es k q] y _ => c.calm && chkP c (.tup p) (.Tuple es k q) && R y && ordB c es y
  | _ => false
def d_par (c : Ck) (i j : Nat) (R Q : Expr → Bool) : Stmt → Bool
  | .Assign [.Tuple [.Name x px, .Name y py] _ _] (.Tuple [u, w] _ _) _ => c.calm && decide (c.N[i]? = some x) && decide (c.N[j]? = some y) && decide (i ≠ j) && parB c x y px py u w && R u && Q w
  | _ => false
def d_app (c : Ck) (i : Nat) (E : Expr → Bool) : Stmt → Bool
  | .Expr (.Call (.Attribute (.Name n _) m apos) [y] [] cpos) _ => decide (m = "append") && nameB c i n && E y && notStar y && (apos.endLine == cpos.line)
  | _ => false
def d_tst (c : Ck) (i : Nat) (K E : Expr → Bool) : Stmt → Bool
  | .Assign [.Subscript (.Name n _) z _] y _ => nameB c i n && E y && K z && notSlice z
  | _ => false
def d_ret (R : Expr → Bool) : Stmt → Bool
  | .Return (some y) _ => R y
  | _ => false
def d_retv (c : Ck) (i : Nat) : Stmt → Bool
  | .Return (some (.Name n _)) _ => nameB c i n
  | _ => false
def d_retn : Stmt → Bool
  | .Return none _ => true
  | _ => false
def d_if (T : Expr → Bool) (a b : List Stmt → Bool) : Stmt → Bool
  | .If z xs ys _ => T z && a xs && b ys
  | _ => false
def d_for (c : Ck) (p : Pa) (I : Expr → Expr → Bool) (b : List Stmt → Bool) : Stmt → Bool
  | .For tg iter body [] _ => c.calm && c.top && chkP c p tg && I tg iter && b body
  | _ => false
def d_rai (c : Ck) (k : Nat) (es : Ex) : Stmt → Bool
  | .Raise (some (.Call (.Name n _) [] [] _)) none _ => c.calm && decide (es = .nil) && decide (c.T.exs[k]? = some n) && glB c.sc n
  | _ => false
def d_exp (E : Expr → Bool) : Stmt → Bool
  | .Expr y _ => E y && swOk y
  | _ => false
def d_stp (c : Ck) (i : Nat) (R : Expr → Bool) : Stmt → Bool
  | .Assign [.Name n _] y _ => decide (c.N[i]? = some n) && locB c n && R y && swOk y && c.stp
  | _ => false
def d_try (c : Ck) (i : Nat) (h : List Stmt → Bool) : Stmt → Bool
  | .Try [.Expr (.Call (.Name a _) [] [] _) _] [.ExceptHandler (some (.Name x _)) (some n) (b0 :: suite) _] [] [] _ => c.calm && c.top && !c.sui && decide (c.lmn = some a) && decide (c.T.exs[0]? = some x) && glB c.sc x && decide (c.N[i]? = some n) && decide (c.sc.names.lookup n = some .local) && h (b0 :: suite)
  | _ => false
def d_trya (c : Ck) (j i : Nat) (h : List Stmt → Bool) : Stmt → Bool
  | .Try [.Assign [.Name nj _] (.Call (.Name a _) [] [] _) _] [.ExceptHandler (some (.Name x _)) (some n) (b0 :: suite) _] [] [] _ => c.calm && c.top && !c.sui && decide (c.lmn = some a) && decide (c.T.exs[0]? = some x) && glB c.sc x && decide (c.N[i]? = some n) && decide (c.sc.names.lookup n = some .local) && h (b0 :: suite) && (decide (c.N[j]? = some nj) && locB c nj)
  | _ => false
def d_aug (c : Ck) (i : Nat) (o : BOp) (E : Expr → Bool) : Stmt → Bool
  | .AugAssign (.Name n _) op y _ => decide (c.N[i]? = some n) && locB c n && E y && (match o, op with
    | .add, .Add => true
    | .sub, .Sub => true
    | _, _ => false)
  | _ => false
def cs : Ev.St → Ck → SChk
  | .nop, _ => ⟨fun _ => false, List.isEmpty⟩
  | .seq a b, c => ⟨fun _ => false, fun xs => match xs with
    | x :: r => (cs a c).one x && (cs b c).many r
    | [] => false⟩
  | .set (.nm i) (.comp p it k e), c => .of fun st => d_set c i (ckR (.comp p it k e) c) st || d_setL c i (ck (.comp p it k e) c).e st
  | .set (.nm i) e, c => .of (d_set c i (ckR e c))
  | .set (.tup p) e, c => .of (d_setP c p (ckR e c))
  | .par i j a b, c => .of (d_par c i j (ckR a c) (ckR b c))
  | .app i e, c => .of (d_app c i (ck e c).e)
  | .tst i k e, c => .of (d_tst c i (ck k c).e (ck e c).e)
  | .ret (.var i), c => .of (d_retv c i)
  | .ret e, c => .of (d_ret (ckR e c))
  | .retn, _ => .of d_retn
  | .ife k a b, c => .of (d_if (ck k c).t (cs a c).many (cs b c).many)
  | .forr p it b, c => .of (d_for c p (ck it c).i (cs b c).many)
  | .rai k es, c => .of (d_rai c k es)
  | .exp e, c => .of (d_exp (ck e c).e)
  | .stp i e, c => .of (d_stp c i (ckR e c))
  | .tryl i h, c => .of (d_try c i (cs h c.suite).many)
  | .trya j i h, c => .of (d_trya c j i (cs h c.suite).many)
  | .aug i o e, c => .of (d_aug c i o (ck e c).e)
  | _, _ => ⟨fun _ => false, fun _ => false⟩
structure CsOk (S : Sx) (c : Ck) (X : Cx) (st : Ev.St) : Prop where
  one : ∀ x, (cs st c).one x = true → PS X x (tS S st)
  many : ∀ xs, (cs st c).many xs = true → PSs X xs (tS S st)
section
variable {S : Sx} {c : Ck} {X : Cx}
theorem CsOk.of {st : Ev.St} {f : Stmt → Bool} (h : cs st c = .of f) (hf : ∀ x, f x = true → PS X x (tS S st)) : CsOk S c X st where
  one := fun x hx => hf x (by rw [h] at hx; exact hx)
  many := fun xs hx => by
    rw [h] at hx
    match xs, hx with
    | [x], hx => exact s_one (hf x hx)
    | [], hx => cases hx
    | _ :: _ :: _, hx => cases hx
theorem CsOk.no {st : Ev.St} (h : cs st c = ⟨fun _ => false, fun _ => false⟩) : CsOk S c X st where
  one := fun x hx => by rw [h] at hx; cases hx
  many := fun x hx => by rw [h] at hx; cases hx
theorem sw_no (G : Good S c X) {n : Str} {p : Pos} {y : Expr} {l : Nat} (h : swNo c n p y = true) : swapsWith y (some (.Name n p)) l X.env = pure false := by
  unfold swNo at h
  split at h
  · rw [sw_lc G]
    rw [Bool.not_eq_true'] at h
    rw [h]
  · exact sw_ok h
theorem d_set_ok (G : Good S c X) {i : Nat} {e : Ex} {x : Stmt} (h : d_set c i (ckR e c) x = true) : PS X x (tS S (.set (.nm i) e)) := by
  unfold d_set at h
  split at h
  · simp only [Bool.and_eq_true, decide_eq_true_eq] at h
    exact s_set G h.1.1.1 h.1.1.2 (ckR_ok G e _ h.1.2) (sw_no G h.2)
  · cases h
theorem ss_no {tg y : Expr} {env : PySem.Env} (h : notTup' y = true) : swappedStores [tg] y env = pure none := by
  cases y <;> first | (cases h; done) | (cases tg <;> rfl)
theorem filter_lt {α β : Type} {f : α → Option β} : ∀ {l : List α}, (∃ a ∈ l, f a = none) → (l.filterMap f).length < l.length
  | [], h => by
    obtain ⟨a, h, _⟩ := h
    cases h
  | a :: l, h => by
    have le : ∀ l : List α, (l.filterMap f).length ≤ l.length := fun l => List.length_filterMap_le f l
    rw [List.filterMap_cons]
    cases q : f a with
    | none =>
      have := le l
      show (l.filterMap f).length < l.length + 1
      omega
    | some b =>
      obtain ⟨c, h1, h2⟩ := h
      rcases List.mem_cons.mp h1 with e | e
      · subst e
        rw [q] at h2
        cases h2
      · have := filter_lt (l := l) ⟨c, e, h2⟩
        show (l.filterMap f).length + 1 < l.length + 1
        omega
theorem ss_ord (G : Good S c X) {es : List Expr} {k : Nat} {q : Pos} {y : Expr} (h : ordB c es y = true) : swappedStores [.Tuple es k q] y X.env = pure none := by
  unfold ordB at h
  rw [Bool.or_eq_true] at h
  rcases h with h | h
  · exact ss_no h
  · cases y with
    | Tuple vs k2 q2 =>
      obtain ⟨e, he, hq⟩ := List.any_eq_true.mp h
      unfold swappedStores
      simp only [pure_bind]
      have lt : ∀ line : Nat, (es.filterMap fun e => match e with
          | .Name id pos => if X.env.kindOf id == some .local && pos.line == line then some id else none
          | _ => none).length < es.length := fun line => filter_lt ⟨e, he, by
        cases e with
        | Name id pos =>
          have hq : (!(c.sc.names.lookup id == some .local)) = true := hq
          have hk : X.env.kindOf id = c.sc.names.lookup id := by unfold Env.kindOf; rw [G.sc]
          show (if X.env.kindOf id == some .local && pos.line == line then some id else none) = none
          rw [hk, if_neg]
          rw [Bool.not_eq_true'] at hq
          rw [hq]
          exact Bool.false_ne_true
        | _ => cases hq⟩
      split
      · rfl
      · split
        · rfl
        · rw [if_pos (by
            have := lt ((es.head?.map (·.pos.line)).getD 0)
            simp only [Bool.or_eq_true, bne_iff_ne, ne_eq]
            left
            intro z
            exact Nat.ne_of_lt this z)]
    | _ => exact ss_no rfl
theorem sole_no {es : List Expr} {k : Nat} {q : Pos} {y : Expr} {l : Nat} {env : PySem.Env} : swapsWithSole [.Tuple es k q] y l env = pure false := by
  cases y <;> rfl
theorem cs_ok : ∀ (st : Ev.St) (S : Sx) (c : Ck) (X : Cx), Good S c X → S.stp = c.stp → CsOk S c X st := by
  intro st
  induction st with
  | nop =>
    intro S c X G hp
    refine ⟨fun x hx => (by cases hx), fun xs hx => ?_⟩
    cases xs with
    | nil => exact s_nop
    | cons _ _ => cases hx
  | seq a b iha ihb =>
    intro S c X G hp
    refine ⟨fun x hx => (by cases hx), fun xs hx => ?_⟩
    cases xs with
    | nil => cases hx
    | cons x r =>
      have hx : ((cs a c).one x && (cs b c).many r) = true := hx
      rw [Bool.and_eq_true] at hx
      exact s_seq ((iha S c X G hp).one x hx.1) ((ihb S c X G hp).many r hx.2)
  | set p e =>
    intro S c X G hp
    cases p with
    | nm i =>
      cases e with
      | comp p it k e =>
        refine .of rfl fun x hx => ?_
        rw [Bool.or_eq_true] at hx
        rcases hx with hx | hx
        · exact d_set_ok G hx
        · unfold d_setL at hx
          split at hx
          · simp only [Bool.and_eq_true, decide_eq_true_eq] at hx
            exact s_setLc G hx.1.1 hx.1.2 hx.2
          · cases hx
      | _ => exact .of rfl fun x hx => d_set_ok G hx
    | tup p =>
      refine .of rfl fun x hx => ?_
      unfold d_setP at hx
      split at hx
      · simp only [Bool.and_eq_true] at hx
        exact s_setP G hx.1.1.1 hx.1.1.2 (ckR_ok G e _ hx.1.2) sole_no (ss_ord G hx.2)
      · cases hx
    | _ => exact .no rfl
  | par i j a b =>
    intro S c X G hp
    refine .of rfl fun x hx => ?_
    unfold d_par at hx
    split at hx
    · simp only [Bool.and_eq_true, decide_eq_true_eq] at hx
      obtain ⟨⟨⟨⟨⟨⟨h1, h2⟩, h3⟩, h4⟩, h5⟩, h6⟩, h7⟩ := hx
      have h5' := h5
      unfold parB at h5'
      simp only [Bool.and_eq_true] at h5'
      obtain ⟨⟨⟨⟨⟨⟨⟨⟨_, q2⟩, q3⟩, _⟩, _⟩, q6⟩, q7⟩, _⟩, _⟩ := h5'
      exact s_par G h1 h2 h3 h4 (eq_of_beq q2) (eq_of_beq q3) (ckR_ok G a _ h6) (ckR_ok G b _ h7) q6 q7 (par_sw G h5)
    · cases hx
  | app i e =>
    intro S c X G hp
    refine .of rfl fun x hx => ?_
    unfold d_app at hx
    split at hx
    · simp only [Bool.and_eq_true, decide_eq_true_eq] at hx
      obtain ⟨⟨⟨⟨e1, h1⟩, h2⟩, h3⟩, h4⟩ := hx
      subst e1
      obtain ⟨n1, n2⟩ := nameB_of h1
      exact s_app G n1 n2 ((ck_ok e S c X G).e _ h2) h3 h4
    · cases hx
  | tst i k e =>
    intro S c X G hp
    refine .of rfl fun x hx => ?_
    unfold d_tst at hx
    split at hx
    · simp only [Bool.and_eq_true] at hx
      obtain ⟨⟨⟨h1, h2⟩, h3⟩, h4⟩ := hx
      obtain ⟨n1, n2⟩ := nameB_of h1
      exact s_tst G n1 n2 ((ck_ok e S c X G).e _ h2) ((ck_ok k S c X G).e _ h3) h4
    · cases hx
  | ret e =>
    intro S c X G hp
    cases e with
    | var i =>
      refine .of rfl fun x hx => ?_
      unfold d_retv at hx
      split at hx
      · obtain ⟨n1, n2⟩ := nameB_of hx
        exact s_retv G n1 n2
      · cases hx
    | _ =>
      refine .of rfl fun x hx => ?_
      unfold d_ret at hx
      split at hx
      · exact s_ret (ckR_ok G _ _ hx) fun fl => rfl
      · cases hx
  | retn =>
    intro S c X G hp
    refine .of rfl fun x hx => ?_
    unfold d_retn at hx
    split at hx
    · exact s_retn
    · cases hx
  | ife k a b iha ihb =>
    intro S c X G hp
    refine .of rfl fun x hx => ?_
    unfold d_if at hx
    split at hx
    · simp only [Bool.and_eq_true] at hx
      exact s_if ((ck_ok k S c X G).t _ hx.1.1) ((iha S c X G hp).many _ hx.1.2) ((ihb S c X G hp).many _ hx.2)
    · cases hx
  | forr p it b ih =>
    intro S c X G hp
    refine .of rfl fun x hx => ?_
    unfold d_for at hx
    split at hx
    · simp only [Bool.and_eq_true] at hx
      obtain ⟨⟨⟨⟨h1, h2⟩, h3⟩, h4⟩, h5⟩ := hx
      obtain ⟨q1, q2⟩ := (ck_ok it S c X G).i _ _ h4
      exact s_for G h1 h2 q1 h3 ((ih S c X G hp).many _ h5) (fold_of q2)
    · cases hx
  | rai k es =>
    intro S c X G hp
    refine .of rfl fun x hx => ?_
    unfold d_rai at hx
    split at hx
    · simp only [Bool.and_eq_true, decide_eq_true_eq] at hx
      obtain ⟨⟨⟨h1, h2⟩, h3⟩, h4⟩ := hx
      subst h2
      exact s_rai G h1 (by rw [← G.T]; exact h3) h4
    · cases hx
  | exp e =>
    intro S c X G hp
    refine .of rfl fun x hx => ?_
    unfold d_exp at hx
    split at hx
    · rw [Bool.and_eq_true] at hx
      exact s_exp ((ck_ok e S c X G).e _ hx.1) hx.2
    · cases hx
  | stp i e =>
    intro S c X G hp
    refine .of rfl fun x hx => ?_
    unfold d_stp at hx
    split at hx
    · simp only [Bool.and_eq_true, decide_eq_true_eq] at hx
      obtain ⟨⟨⟨⟨h1, h2⟩, h3⟩, h4⟩, h5⟩ := hx
      exact s_stp G (by rw [hp]; exact h5) h1 h2 (ckR_ok G e _ h3) h4
    · cases hx
  | tryl i h ih =>
    intro S c X G hp
    refine .of rfl fun x hx => ?_
    unfold d_try at hx
    split at hx
    · simp only [Bool.and_eq_true, decide_eq_true_eq, Bool.not_eq_true'] at hx
      obtain ⟨⟨⟨⟨⟨⟨⟨⟨h1, h2⟩, h3⟩, h4⟩, h5⟩, h6⟩, h7⟩, h8⟩, h9⟩ := hx
      exact s_tryl G h1 h2 h3 h4 (by rw [← G.T]; exact h5) h6 h7 h8 fun S' X' G' _ hs => (ih S' _ X' G' (hs.trans hp)).many _ h9
    · cases hx
  | trya j i h ih =>
    intro S c X G hp
    refine .of rfl fun x hx => ?_
    unfold d_trya at hx
    split at hx
    · simp only [Bool.and_eq_true, decide_eq_true_eq, Bool.not_eq_true'] at hx
      obtain ⟨⟨⟨⟨⟨⟨⟨⟨⟨h1, h2⟩, h3⟩, h4⟩, h5⟩, h6⟩, h7⟩, h8⟩, h9⟩, h10, h11⟩ := hx
      exact s_trya G h1 h2 h3 h4 (by rw [← G.T]; exact h5) h6 h10 h11 h7 h8 fun S' X' G' _ hs => (ih S' _ X' G' (hs.trans hp)).many _ h9
    · cases hx
  | aug i o e =>
    intro S c X G hp
    refine .of rfl fun x hx => ?_
    unfold d_aug at hx
    split at hx
    · simp only [Bool.and_eq_true, decide_eq_true_eq] at hx
      obtain ⟨⟨⟨h1, h2⟩, h3⟩, h4⟩ := hx
      split at h4
      · exact s_aug G h1 h2 ((ck_ok e S c X G).e _ h3) ip_add fun _ _ => rfl
      · exact s_aug G h1 h2 ((ck_ok e S c X G).e _ h3) ip_sub fun _ _ => rfl
      · cases h4
    · cases hx
  | _ => exact fun S c X G hp => .no rfl
end
end Ev

set_option Elab.async false
set_option autoImplicit false
set_option linter.all false
set_option maxRecDepth 100000
set_option maxHeartbeats 2000000
/-! Defs: each keeps its promise, level by level. -/
namespace Ev
open PySem PySem.Spec PyProof.Rows L2
/-- a def of the row and its evaluator's form -/
structure FnD where
  x : Str
  ps : List Str
  N : List Str
  g : Bool
  lam : Bool
  F : Fn
  params : Arguments
  body : List Stmt
  scope : Scope
def FnD.c (d : FnD) (T : Tab) (stp : Bool) (lmn : Option Str) : Ck := { sc := d.scope, N := d.N, T := T, calm := true, gd := d.g, fb := d.scope, top := true, sui := false, lam := d.lam, lmn := lmn, stp := stp }
/-- what is true of the program's names, whatever the frame -/
structure Bas (S : Sx) : Prop where
  gl : ∀ (k : Nat) (x : Str) d, S.T.gls[k]? = some (x, d) → (∀ l, (S.gm l).glb k = some d) ∧ ∃ u v, S.mg x = some u ∧ RelV v u ∧ ∀ H A, Rp S.K H A v d
  gt : ∀ (k : Nat) (x : Str) (ds : List PyData), S.T.gls[k]? = some (x, PyData.tuple ds) → ∃ q o vs, S.mg x = some (.ref q) ∧ S.K.lookup q = some o ∧ o.cls = .type "tuple" ∧ o.dict = none ∧ ∀ H A, SqT S.K H q vs ∧ RpA S.K H A vs ds
  fr : ∀ x ∈ blts, S.mg x = none
  ex : ∀ (k : Nat) (x : Str), S.T.exs[k]? = some x → ∃ C, S.mg x = some (.ref C) ∧ ExcOk S.K C
  ek : ∀ (k l : Nat) (x y : Str) (C D : Addr), S.T.exs[k]? = some x → S.T.exs[l]? = some y → k ≠ 0 → S.mg x = some (.ref C) → S.mg y = some (.ref D) → PySem.W.kitOne S.K (.ref D) (.ref C) = some (decide (k = l))
  ev : ∀ (l : Nat) (y : Str) (D : Addr), S.T.exs[l]? = some y → S.mg y = some (.ref D) → PySem.W.kitOne S.K (.ref D) (.type "ValueError") = some true
  ec : ∀ (l : Nat) (x y : Str) (C D : Addr), S.T.exs[0]? = some x → S.T.exs[l]? = some y → S.mg x = some (.ref C) → S.mg y = some (.ref D) → PySem.W.exmOne S.K (.ref D) (.ref C) = some true
/-- the level's defs keep their promises -/
structure LvOk (S : Sx) (P : Program) (w : World) (base : Heap) (l : Nat) : Prop where
  cl : ∀ (f : Nat) (x : Str) (ps : List Str) (g : Bool), S.T.fns[f]? = some (x, ps, g) → x ≠ "" → CallOk (S.lev l) P w base l f x g
  lw : ∀ (f : Nat) (x : Str), S.T.lw = some (f, x) → LwOk S P w base l f x
/-- a lambda's name -/
def lamN (x : Str) : Str := x ++ ".<locals>." ++ "<lambda>"
/-- the lambdas of a def: its code object and its table -/
def LmF (S : Sx) (base : Heap) (x : Str) (cdv : Value) : Prop := ∃ co P, cdv = .ref co ∧ LamX.TabB base S.mg co P ∧ (P, lamN x) ∈ S.s.tb ∧ ∀ p ∈ S.s.tb, p.1 = P → p.2 = lamN x
section
variable {S : Sx} {P : Program} {w : World} {base : Heap}
theorem Good.ofFn (b : Bas S) {l : Nat} (ih : ∀ l', l' ≤ l → LvOk S P w base l') {d : FnD} {ps : List Str} (sc : FnScope d.N ps d.scope) {CX : CXT} {K : PySem.W.Frag} {mg : Str → Option Value} (hK : K = S.K) (hmg : mg = S.mg) {fa : Addr} {cdv : Value} {A : Around} {outer : List PySem.Env} {s : Shared} {H : Hp} {E : XK} {X : Cx} {W : WX} {sx : TpS} {stp : Bool} {lmn : Option Str}
    (hX : X = cxOf CX P w K mg base d.N d.x d.scope fa cdv A outer s H E ∨ X = (cxOf CX P w K mg base d.N d.x d.scope fa cdv A outer s H E).nox) (hr : Room (l + 1) (A.deeper (envOfC d.x d.scope s.heap.objs.size fa cdv))) (hg : d.g = true → A.guards = some []) (tk : Takes X W) (po : PassesOwn (model X.prog X.w) X.A X.env X.xe)
    (hlm : d.lam = true → LmF S base d.x cdv) (hxc : sx.xc = none) (htb : sx.tb = S.s.tb) (hln : lmn = none → sx.lm = none) (hac : ∀ a, lmn = some a → ∃ lm, sx.lm = some lm ∧ lm.a = a ∧ LamOk { S.lev l with W := W, s := sx, stp := stp } X lm) :
    Good { S.lev l with W := W, s := sx, stp := stp } (d.c S.T stp lmn) X := by
  have hprog : X.prog = P := by rcases hX with h | h <;> (rw [h]; rfl)
  have hw : X.w = w := by rcases hX with h | h <;> (rw [h]; rfl)
  have hbase : X.base = base := by rcases hX with h | h <;> (rw [h]; rfl)
  have hA : X.A = A.deeper (envOfC d.x d.scope s.heap.objs.size fa cdv) := by rcases hX with h | h <;> (rw [h]; rfl)
  have henv : X.env = envOfC d.x d.scope s.heap.objs.size fa cdv := by rcases hX with h | h <;> (rw [h]; rfl)
  have hq : X.env.qual = d.x ++ ".<locals>." := by rw [henv]; rfl
  have hcode : X.env.code = cdv := by rw [henv]; rfl
  have htp : X.stack = X.env :: X.outer ∧ X.env.frame = some X.env.locals := by rcases hX with h | h <;> (subst h; exact ⟨rfl, rfl⟩)
  have hmgX : X.mg = S.mg := by rcases hX with h | h <;> (rw [h]; exact hmg)
  have hlmX : d.lam = true → ∃ co T, X.env.code = .ref co ∧ LamX.TabB X.base X.mg co T ∧ (T, X.env.qual ++ "<lambda>") ∈ sx.tb ∧ ∀ p ∈ sx.tb, p.1 = T → p.2 = X.env.qual ++ "<lambda>" := fun h => by
    obtain ⟨co, T, q1, q2, q3, q4⟩ := hlm h
    rw [hq, htb, hbase, hmgX]
    exact ⟨co, T, hcode.trans q1, q2, q3, q4⟩
  have eb : TpS.base sx = TpS.base S.s := by
    unfold TpS.base
    rw [htb]
  exact {
    T := rfl
    K := by rcases hX with h | h <;> (rw [h]; exact hK)
    mg := by rcases hX with h | h <;> (rw [h]; exact hmg)
    sc := by rw [henv]; rfl
    N := by rcases hX with h | h <;> (rw [h]; rfl)
    nd := by rcases hX with h | h <;> (rw [h]; exact sc.nd)
    hu := by
      rw [hA]
      have := hr.un
      omega
    calm := fun _ => by rcases hX with h | h <;> (rw [h]; rfl)
    gd := fun h => by
      rw [hA]
      exact hg h
    tk := tk
    gl := b.gl
    gt := b.gt
    fr := b.fr
    mm := rfl
    rm := fun _ => by rw [hA]; exact hr
    cl := fun l' f x ps g h0 h1 h2 => by
      rw [hprog, hw, hbase]
      obtain ⟨q⟩ := (ih l' h0).cl f x ps g h1 h2
      refine ⟨?_⟩
      obtain ⟨fa', m1, m2, m3⟩ := q
      refine ⟨fa', m1, m2, fun X W e1 e2 e3 e4 e5 hr hg tk pins s σ H us vs Q I rv h => m3 X W e1 e2 e3 e4 e5 hr hg tk pins s σ H us vs Q I rv ?_⟩
      obtain ⟨aT, F, t, vls, hst, r⟩ := h
      exact ⟨aT, F, t, vls, hst.trans eb, r⟩
    lw := fun l' f x h0 h1 => by
      rw [hprog, hw, hbase]
      obtain ⟨q⟩ := (ih l' h0).lw f x h1
      refine ⟨fun X W e1 e2 e3 e4 e5 hr tk hgl hN htab params body scope p lpos pos b' hL hdef hbind hbody => ?_⟩
      have htab' : ∃ co T, X.env.code = .ref co ∧ LamX.TabB X.base X.mg co T ∧ (T, X.env.qual ++ "<lambda>") ∈ S.s.tb ∧ ∀ p ∈ S.s.tb, p.1 = T → p.2 = X.env.qual ++ "<lambda>" := by
        obtain ⟨co, T, q1, q2, q3, q4⟩ := htab
        have q3 : (T, X.env.qual ++ "<lambda>") ∈ sx.tb := q3
        have q4 : ∀ p ∈ sx.tb, p.1 = T → p.2 = X.env.qual ++ "<lambda>" := q4
        rw [htb] at q3 q4
        exact ⟨co, T, q1, q2, q3, q4⟩
      have r := q X W e1 e2 e3 e4 e5 hr tk hgl hN htab' params body scope p lpos pos b' hL hdef hbind (fun l'' hl A outer s H E f c' hr' => by
        have z := hbody l'' hl A outer s H E f c' hr'
        refine peOf z fun σ H Q hh => ?_
        obtain ⟨aT, F, fl, r, t, hst, hh⟩ := hh
        exact ⟨aT, F, fl, r, t, hst.trans eb.symm, hh⟩)
      refine peOf r fun σ H Q hh => ?_
      obtain ⟨aT, F, fl, r, t, hst, hh⟩ := hh
      exact ⟨aT, F, fl, r, t, hst.trans eb, hh⟩
    ex := b.ex
    ek := b.ek
    ev := b.ev
    ec := b.ec
    xn := fun _ => hxc
    xs := fun a k h => by
      have h : sx.xc = some (a, k) := h
      rw [hxc] at h
      cases h
    ac := hac
    ln := fun _ => hln
    fn := fun x _ => by rcases hX with h | h <;> (rw [h]; rfl)
    po := fun _ => po
    tp := fun _ => htp
    lm := hlmX }
end
end Ev

set_option Elab.async false
set_option autoImplicit false
set_option linter.all false
set_option maxRecDepth 100000
set_option maxHeartbeats 2000000
/-! A def's call. -/
namespace Ev
open PySem PySem.Spec PyProof.Rows L2
/-- a def of the row, its evaluator's form checked -/
structure DfOk (S : Sx) (base : Heap) (d : FnD) : Prop where
  fd : ∃ fa fd, S.mg d.x = some (.ref fa) ∧ FunD S.K d.x d.x d.params d.body d.scope [] [] fa fd ∧ (d.lam = true → ∀ (params : Arguments) (body : List Stmt) (scope : Scope) (dV kV doc pm : Value) (an : Option Addr) (cdv ct : Value), fd = PySem.W.fnOf d.x d.x params body scope dV kV doc pm an cdv ct → LmF S base d.x cdv)
  bd : ∀ (kV doc pm : Value) (an : Option Addr) (cdv ct : Value) (us : List Value), us.length = d.ps.length → bindArgs (PySem.W.fnOf d.x d.x d.params d.body d.scope .none kV doc pm an cdv ct) ⟨us, []⟩ = pure (d.ps.zip us)
  sc : FnScope d.N d.ps d.scope
  ar : d.F.ar = d.ps.length
  sl : d.F.sl = d.N.length
  ck : (cs d.F.body (d.c S.T false none)).many d.body = true
section
variable {S : Sx} {P : Program} {w : World} {base : Heap}
theorem AgsR.len {K : PySem.W.Frag} {aT : TpA} {H : Hp} {A : Addr → Prop} : ∀ {us : List V} {vs : List Vl}, AgsR K aT H A us vs → us.length = vs.length
  | _, _, .nil => rfl
  | _, _, .cons _ t => congrArg Nat.succ t.len
theorem AgsR.at {K : PySem.W.Frag} {aT : TpA} {H : Hp} {A : Addr → Prop} : ∀ {us : List V} {vs : List Vl} {i : Nat} {v : Vl}, AgsR K aT H A us vs → vs[i]? = some v → ∃ u, us[i]? = some u ∧ AgR K aT H A u v
  | _, _, 0, _, .cons q t, e => ⟨_, rfl, by cases e; exact q⟩
  | _, _, i + 1, _, .cons q t, e => t.at (i := i) e
theorem getV_start {vs : List Vl} {n i : Nat} {v : Vl} (h : getV (vs.map some ++ List.replicate n none) i = some v) : vs[i]? = some v := by
  unfold getV at h
  rcases Nat.lt_or_ge i vs.length with l | l
  · rw [List.getElem?_append_left (by rw [List.length_map]; exact l), List.getElem?_map] at h
    cases q : vs[i]? with
    | none => rw [q] at h; cases h
    | some x => rw [q] at h; exact h
  · rw [List.getElem?_append_right (by rw [List.length_map]; exact l), List.getElem?_replicate] at h
    by_cases q : i - (vs.map some).length < n
    · rw [if_pos q] at h
      cases h
    · rw [if_neg q] at h
      cases h
theorem AgR.slt {K : PySem.W.Frag} {aT : TpA} {H : Hp} {F : Addr → Prop} {u : V} {v : Vl} (h : AgR K aT H F u v) : SltR K aT F H false u v := by
  cases v with
  | d x => exact h
  | tp => exact h
  | scr ns => exact h
  | lam b r => exact h.elim
  | exc c p => exact h.elim
/-- a frame at its start -/
theorem rel_start {K : PySem.W.Frag} {aT : TpA} {F : Addr → Prop} {H : Hp} {t : Tp} {us : List V} {vs : List Vl} {N : List Str} {m : Nat} (R : TR K aT F t H) (as : AgsR K aT H F us vs) (hl : vs.length ≤ N.length) (hm : m = N.length - vs.length) :
    Rel K aT F (flg (List.replicate N.length false)) (vs.map some ++ List.replicate m none) t (L2.start N us) H := by
  have e := as.len
  refine { R with len := ?_, slot := ?_, own := ?_, dis := ?_ }
  · show (us.map some ++ List.replicate (N.length - us.length) none).length = _
    simp only [List.length_append, List.length_map, List.length_replicate]
    omega
  · intro i v h
    obtain ⟨u, h1, h2⟩ := as.at (getV_start h)
    refine ⟨u, ?_, by rw [flg_rep]; exact h2.slt⟩
    show (us.map some ++ List.replicate (N.length - us.length) none)[i]? = _
    have l : i < us.length := (List.getElem?_eq_some_iff.mp h1).1
    rw [List.getElem?_append_left (by rw [List.length_map]; exact l), List.getElem?_map, h1]
    rfl
  · intro i h
    rw [flg_rep] at h
    cases h
  · intro i j a h
    rw [flg_rep] at h
    cases h
theorem call_ok (b : Bas S) {l : Nat} (ih : ∀ l', l' ≤ l → LvOk S P w base l') {d : FnD} (D : DfOk S base d) {f : Nat} {gl : Nat → Option PyData} {fns : List Fn} {wf : Nat} (hgm : S.gm = cal gl fns wf) (hf : fns[f]? = some d.F) (hs : S.s = S.s.base) (hst : S.stp = false) :
    CallOk (S.lev (l + 1)) P w base (l + 1) f d.x d.g := by
  obtain ⟨fa, fd, hm, FD, hlm⟩ := D.fd
  refine ⟨fa, hm, FD.kp, ?_⟩
  intro X W e1 e2 e3 e4 e5 hr hg tk pins s σ H us vs Q I rv h
  have e3 : X.K = S.K := e3
  have e4 : X.mg = S.mg := e4
  obtain ⟨aT, F, t, vls, hst0, R, as, h⟩ := h
  have hB := FD.bindsN D.bd
  obtain ⟨oc, od, dV, kV, doc, pm, an, cdv, ct, osl, hfd, lk, hcd, _, _⟩ := FD.ex
  have hM : (S.lev (l + 1)).M = cal gl fns wf (l + 1) := by show S.gm (l + 1) = _; rw [hgm]
  rw [hM] at h
  have h : Post (match fns[f]? with
      | some F => if vls.length = F.ar then (match evS (cal gl fns wf l) F.body ⟨vls.map some ++ List.replicate (F.sl - F.ar) none, List.replicate F.sl false, t⟩ with
        | .rt x m t => Res.ok (x, m) t
        | .nx s => .ok (.none, false) s.t
        | .ex c p s => .exc c p s.t
        | .bad => .bad) else .bad
      | none => .bad) _ _ := h
  rw [hf] at h
  dsimp only at h
  have hl : vls.length = d.F.ar := by
    refine Decidable.byContradiction fun hn => ?_
    rw [if_neg hn] at h
    exact h
  rw [if_pos hl] at h
  have hlv : vs.length = d.ps.length := by rw [as.len, hl, D.ar]
  have hlu : us.length = d.ps.length := by rw [← rv.length]; exact hlv
  have bb := hB s us (by rw [← e3]; exact I.kIn) (by rw [List.append_nil]; exact hlu)
  rw [List.append_nil, hfd] at bb
  have lk' := lk
  rw [hfd] at lk'
  have e0 : Env0 P w S.K S.mg base X.A X.stack s H := by
    have := I.env0
    rw [e1, e2, e3, e4, e5] at this
    exact this
  have hpre : d.ps.length ≤ d.N.length := by
    have := congrArg List.length D.sc.pre
    rw [List.length_take] at this
    omega
  have main : codeAny (model P w) X.A (.call (.ref fa) ⟨us, []⟩) (CR (L2.CX P w) X.stack P w H s Q (WE W σ)) s := by
    refine LamX.run_ofS lk' hcd D.sc hr e0 bb rv hlv fun hr' => ?_
    have G : Good { S.lev l with W := fun c1 d1 _ H1 => W c1 d1 σ H1, s := S.s.base, stp := false } (d.c S.T false none) (cxOf (L2.CX P w) P w S.K S.mg base d.N d.x d.scope fa cdv X.A X.stack s H (WE W σ)) :=
      Good.ofFn b ih D.sc (CX := L2.CX P w) (fa := fa) (cdv := cdv) (A := X.A) (outer := X.stack) (s := s) (H := H) (E := WE W σ) rfl rfl (.inl rfl) hr' hg (takes_of rfl rfl rfl rfl) (passes_of rfl) (fun q => hlm q _ _ _ _ _ _ _ _ _ _ hfd) rfl rfl (fun _ => rfl) (fun a q => by cases q)
    refine ⟨_, (cs_ok _ _ _ _ G rfl).many _ D.ck, ?_⟩
    have hG0 : cal gl fns wf l = S.gm l := by rw [hgm]
    rw [hG0, D.ar, D.sl] at h
    have hvl : vls.length = d.ps.length := hl.trans D.ar
    have R0 : Rel S.K aT F (flg (List.replicate d.N.length false)) (vls.map some ++ List.replicate (d.N.length - d.ps.length) none) t (L2.start d.N vs) H :=
      rel_start R as (by omega) (by omega)
    refine ⟨⟨aT, F, H, F, H⟩, aT, F, ⟨vls.map some ++ List.replicate (d.N.length - d.ps.length) none, List.replicate d.N.length false, t⟩, hst0, ?_, ?_⟩
    · refine ⟨R0, .refl, fun i a q => ?_, .inl ⟨rfl, rfl⟩, ?_, .refl, fun _ q => q⟩
      · have q : flg (List.replicate d.N.length false) i = true := q
        rw [flg_rep] at q
        cases q
      · show (List.replicate d.N.length false).length = (vls.map some ++ List.replicate (d.N.length - d.ps.length) none).length
        simp only [List.length_append, List.length_map, List.length_replicate]
        omega
    · have sameT : ∀ {aT' : TpA}, aT'.s = S.s.base → aT'.a = aT.a → aT'.f = aT.f → aT' = aT := fun {aT'} q1 q2 q3 => by
        cases aT'
        cases aT
        cases q1
        cases q2
        cases q3
        cases hst0
        rfl
      generalize ho : evS (S.gm l) d.F.body ⟨vls.map some ++ List.replicate (d.N.length - d.ps.length) none, List.replicate d.N.length false, t⟩ = o at h ⊢
      have ho' : evS ({ S.lev l with W := fun c1 d1 _ H1 => W c1 d1 σ H1, s := S.s.base, stp := false } : Sx).M d.F.body ⟨vls.map some ++ List.replicate (d.N.length - d.ps.length) none, List.replicate d.N.length false, t⟩ = o := ho
      rw [ho']
      cases o with
      | nx s1 =>
        intro aT1 F1 σ1 H1 q1 fr
        have ea := sameT q1 (fr.tp.elim (fun z => z.1) fun z => (by cases z.1)) (fr.tp.elim (fun z => z.2) fun z => (by cases z.1))
        subst ea
        exact h V.non H1 F1 fr.go fr.rel.toTR (.rp .non)
      | rt x m t1 =>
        intro aT1 F1 v H1 q1 q2 g1 R1 V1
        have ea := sameT q1 (q2.elim (fun z => z.1) fun z => (by cases z)) (q2.elim (fun z => z.2) fun z => (by cases z))
        subst ea
        exact h v H1 F1 g1 R1 V1
      | ex cc p s1 =>
        intro aT1 F1 σ1 H1 cls dd q1 fr e
        have ea := sameT q1 (fr.tp.elim (fun z => z.1) fun z => (by cases z.1)) (fr.tp.elim (fun z => z.2) fun z => (by cases z.1))
        subst ea
        exact h cls dd H1 F1 fr.go fr.rel.toTR e
      | bad => exact h
  rw [e1, e2]
  refine wpAny_call (codeAny_mono main fun r s' hq => ?_)
  have pa := passAt tk σ
  rw [e1, e2] at pa
  cases r with
  | error e => exact pa pins H s e s' I hq
  | ok fl =>
    cases fl with
    | ret u => exact I.after (by rw [e1, e2]; exact hq)
    | next => exact False.elim hq
    | brk => exact False.elim hq
    | cont => exact False.elim hq
end
end Ev

set_option Elab.async false
set_option autoImplicit false
set_option linter.all false
set_option maxRecDepth 100000
set_option maxHeartbeats 2000000
/-! The def that gets a lambda. -/
namespace Ev
open PySem PySem.Spec PyProof.Rows L2
structure WdOk (S : Sx) (d : FnD) (a : Str) : Prop where
  fd : ∃ fa fd, S.mg d.x = some (.ref fa) ∧ FunD S.K d.x d.x d.params d.body d.scope [] [] fa fd
  bd : ∀ (kV doc pm : Value) (an : Option Addr) (cdv ct : Value) (us : List Value), us.length = d.ps.length → bindArgs (PySem.W.fnOf d.x d.x d.params d.body d.scope .none kV doc pm an cdv ct) ⟨us, []⟩ = pure (d.ps.zip us)
  sc : FnScope d.N d.ps d.scope
  ps : d.ps = [a]
  n0 : d.N[0]? = some a
  va : Vis d.scope a
  d1 : (a == ("__debug__" : Str)) = false
  d2 : (a == ("__classdict__" : Str)) = false
  dx : (d.x == ("__debug__" : Str)) = false
  g : d.g = false
  lm : d.lam = false
  ar : d.F.ar = 1
  sl : d.F.sl = d.N.length
  nx : ∀ (g : Gm) (s : Stt) (c : Nat) (p : List PyData) (s' : Stt), evS g d.F.body s ≠ .ex c p s'
  ck : (cs d.F.body (d.c S.T false (some a))).many d.body = true
section
variable {S : Sx} {P : Program} {w : World} {base : Heap}
/-- what the lambda does, one level down -/
def AcT (S : Sx) (l : Nat) (σ : L2.St) (b : Ex) (E : XK) (HZ : Hp) (Q : VK) : Prop := ∃ aT F r t, aT.s = S.s.base ∧ Rel S.K aT F (fun _ => false) r t σ HZ ∧ Post ((S.gm l).act b r t) (fun y t' => ∀ v H' F1, Go aT F HZ F1 H' → Rel S.K aT F1 (fun _ => false) r t' σ H' → Rp S.K H' F1 v y → Q v H')
  (fun c p t' => ∀ cls d H' F1, Go aT F HZ F1 H' → Rel S.K aT F1 (fun _ => false) r t' σ H' → ExR S c p cls d H' → E cls d H')
def TTw (S : Sx) (l f : Nat) (b : Ex) : (XK → Hp → VK → Prop) → Hp → VK → Prop := fun tl H Q => ∃ (aT : TpA) (F : Addr → Prop) (r : Env) (t : Tp) (σ : L2.St), aT.s = S.s.base ∧ Rel S.K aT F (fun _ => false) r t σ H ∧ (∀ E HZ Q', AcT S l σ b E HZ Q' → tl E HZ Q') ∧
  Post ((S.gm (l + 1)).cl f [.lam b (shut r)] t) (fun x t' => ∀ v H' F1, Go aT F H F1 H' → TR S.K aT F1 t' H' → VR S.K H H' F1 (fun _ => False) x.2 v x.1 → Q v H') (fun _ _ _ => True)
/-- the lambda's body, as it is read at a level -/
def tBd (S : Sx) (b : Ex) : Nat → XK → TE
  | 0 => fun _ _ _ _ => False
  | l + 1 => fun E => tE { S.lev l with W := fun cls d _ H => E cls d H, s := S.s.base } b
theorem act_bd {gl : Nat → Option PyData} {fns : List Fn} {wf : Nat} (hgm : S.gm = cal gl fns wf) {l : Nat} {b : Ex} {σ : L2.St} {E : XK} {HZ : Hp} {Q : VK} (h : AcT S l σ b E HZ Q) : tBd S b l E σ HZ Q := by
  obtain ⟨aT, F, r, t, h1, h2, h3⟩ := h
  cases l with
  | zero =>
    rw [hgm] at h3
    exact h3
  | succ l =>
    have e : (S.gm (l + 1)).act b r t = ev (S.gm l) b r t := by rw [hgm]; rfl
    rw [e] at h3
    exact ⟨aT, F, fun _ => false, r, t, h1, h2, h3.mono (fun x t' q v H' F1 g R V => by
      obtain ⟨F2, g2, R2, sub, V2⟩ := freeze h2 g R V
      exact q v H' F2 g2 R2 (V2.mono fun a z => z.elim id fun ⟨_, _, z, _⟩ => by cases z)) fun c p t' q cls d H' F1 g R e => q cls d H' F1 g R e⟩
theorem shut_at {r : Env} {i : Nat} {y : PyData} (h : (shut r)[i]? = some (some y)) : getV r i = some (.d y) := by
  unfold shut at h
  rw [List.getElem?_map] at h
  unfold getV
  cases q : r[i]? with
  | none => rw [q] at h; cases h
  | some o =>
    rw [q] at h
    cases o with
    | none => cases h
    | some v =>
      cases v with
      | d x => cases h; rfl
      | _ => cases h
theorem gives_w (b : Bas S) {l : Nat} (ih : ∀ l', l' ≤ l → LvOk S P w base l') {d : FnD} {a : Str} (D : WdOk S d a) {f : Nat} {gl : Nat → Option PyData} {fns : List Fn} {wf : Nat} (hgm : S.gm = cal gl fns wf) (hf : fns[f]? = some d.F) (hs : S.s = S.s.base) (hst : S.stp = false)
    {X : Cx} (e1 : X.prog = P) (e2 : X.w = w) (e3 : X.K = S.K) (e4 : X.mg = S.mg) (e5 : X.base = base) {g : Addr} {cdv : Value} {q : Str} {bx : Ex} (hr : ∀ s : Shared, Room (l + 1) (X.A.deeper (envOfC d.x d.scope s.heap.objs.size g cdv))) :
    LamX.GivesTo X d.N d.x d.scope g cdv d.body a q (TTw S l f bx) := by
  intro fo c' s H Q tl act hc h
  obtain ⟨aT, F, r, t, σ, hst0, R, htl, h⟩ := h
  subst e1 e2 e5
  have hM : (S.gm (l + 1)).cl f [.lam bx (shut r)] t = (match evS (S.gm l) d.F.body ⟨[some (.lam bx (shut r))] ++ List.replicate (d.N.length - 1) none, List.replicate d.N.length false, t⟩ with
        | .rt x m t => Res.ok (x, m) t
        | .nx s => .ok (.none, false) s.t
        | .ex c p s => .exc c p s.t
        | .bad => .bad) := by
    rw [hgm]
    show (match fns[f]? with
      | some F => _
      | none => _) = _
    rw [hf]
    dsimp only
    rw [if_pos (by rw [D.ar]; rfl), D.ar, D.sl]
    rfl
  rw [hM] at h
  have G : Good { S.lev l with W := fun _ _ _ _ => False, s := ⟨S.s.tb, none, some ⟨a, fo, c', q, bx, σ⟩⟩, stp := false } (d.c S.T false (some a)) (cxOf C8.CX0 X.prog X.w X.K X.mg X.base d.N d.x d.scope g cdv X.A X.stack s H C8.E0).nox := by
    rw [e3, e4]
    refine Good.ofFn b ih D.sc (CX := C8.CX0) (fa := g) (cdv := cdv) (A := X.A) (outer := X.stack) (s := s) (H := H) (E := C8.E0) rfl rfl (.inr rfl) (hr s) (fun z => ?_) LamX.takes0 PassesOwn.never (fun z => ?_) rfl rfl (fun z => (by cases z)) (fun a' z => ?_)
    · rw [D.g] at z
      cases z
    · rw [D.lm] at z
      cases z
    · cases z
      refine ⟨_, rfl, rfl, ⟨fun W pn xe E p1 p2 tk hW => ?_⟩⟩
      rw [← e3, ← e4] at tk ⊢
      refine peOf (act W pn xe E p1 p2 tk hW) fun σZ HZ Q' z => ?_
      obtain ⟨z1, z2, z3⟩ := z
      exact ⟨z1, z2, htl E HZ Q' z3⟩
  refine ⟨_, (cs_ok _ _ _ _ G rfl).many _ D.ck, ?_⟩
  have hN : 1 ≤ d.N.length := (List.getElem?_eq_some_iff.mp D.n0).1
  have tb0 : aT.s.tb = S.s.tb := by rw [hst0]; rfl
  have R0 : Rel S.K ⟨aT.a, aT.f, ⟨S.s.tb, none, some ⟨a, fo, c', q, bx, σ⟩⟩⟩ F (flg (List.replicate d.N.length false)) ([some (.lam bx (shut r))] ++ List.replicate (d.N.length - 1) none) t (L2.start d.N [V.ref fo]) H := by
    refine ⟨⟨R.dom, R.tape, R.none, by show LamX.Tabs S.s.tb H; rw [← tb0]; exact R.tabs⟩, ?_, fun i v z => ?_, fun i z => ?_, fun i j a z => ?_⟩
    · show ([some (V.ref fo)] ++ List.replicate (d.N.length - 1) none).length = _
      simp only [List.length_append, List.length_replicate, List.length_cons, List.length_nil]
    · have z := getV_start (vs := [.lam bx (shut r)]) z
      cases i with
      | zero =>
        cases z
        refine ⟨.ref fo, rfl, ?_⟩
        rw [flg_rep]
        exact ⟨_, rfl, rfl, rfl, hc, ⟨by rw [R.len]; unfold shut; rw [List.length_map], fun i y e => by
          obtain ⟨x, h1, h2⟩ := R.slot i _ (shut_at e)
          exact ⟨x, h1, h2⟩⟩⟩
      | succ i => cases z
    · rw [flg_rep] at z
      cases z
    · rw [flg_rep] at z
      cases z
  refine ⟨⟨⟨aT.a, aT.f, ⟨S.s.tb, none, some ⟨a, fo, c', q, bx, σ⟩⟩⟩, F, H, F, H⟩, ⟨aT.a, aT.f, ⟨S.s.tb, none, some ⟨a, fo, c', q, bx, σ⟩⟩⟩, F, ⟨[some (.lam bx (shut r))] ++ List.replicate (d.N.length - 1) none, List.replicate d.N.length false, t⟩, rfl, ?_, ?_⟩
  · refine ⟨R0, .refl, fun i a z => ?_, .inl ⟨rfl, rfl⟩, ?_, .refl, fun _ z => z⟩
    · have z : flg (List.replicate d.N.length false) i = true := z
      rw [flg_rep] at z
      cases z
    · show (List.replicate d.N.length false).length = ([some (Vl.lam bx (shut r))] ++ List.replicate (d.N.length - 1) none).length
      simp only [List.length_append, List.length_replicate, List.length_cons, List.length_nil]
      omega
  · have sameT : ∀ {aT' : TpA} {F1 : Addr → Prop} {H1 : Hp} {t1 : Tp}, aT'.s = ⟨S.s.tb, none, some ⟨a, fo, c', q, bx, σ⟩⟩ → aT'.a = aT.a → aT'.f = aT.f → Go ⟨aT.a, aT.f, ⟨S.s.tb, none, some ⟨a, fo, c', q, bx, σ⟩⟩⟩ F H F1 H1 → TR S.K aT' F1 t1 H1 → Go aT F H F1 H1 ∧ TR S.K aT F1 t1 H1 := fun {aT' F1 H1 t1} q1 q2 q3 g T => by
      refine ⟨⟨⟨g.nx.k⟩, g.gr, g.nw, g.no⟩, ⟨T.dom, fun ts ht => ?_, fun ht => by rw [← q2]; exact T.none ht, ?_⟩⟩
      · obtain ⟨a1, xs, z1, z2, z3, z4, z5⟩ := T.tape ts ht
        exact ⟨a1, xs, by rw [← q2]; exact z1, z2, z3, by rw [← q3]; exact z4, by rw [← q3]; exact z5⟩
      · rw [tb0]
        have := T.tabs
        rw [q1] at this
        exact this
    have nx := D.nx (S.gm l) ⟨[some (.lam bx (shut r))] ++ List.replicate (d.N.length - 1) none, List.replicate d.N.length false, t⟩
    generalize ho : evS (S.gm l) d.F.body ⟨[some (.lam bx (shut r))] ++ List.replicate (d.N.length - 1) none, List.replicate d.N.length false, t⟩ = o at h nx
    have ho' : evS ({ S.lev l with W := fun _ _ _ _ => False, s := ⟨S.s.tb, none, some ⟨a, fo, c', q, bx, σ⟩⟩, stp := false } : Sx).M d.F.body ⟨[some (.lam bx (shut r))] ++ List.replicate (d.N.length - 1) none, List.replicate d.N.length false, t⟩ = o := ho
    rw [ho']
    cases o with
    | nx s1 =>
      intro aT1 F1 σ1 H1 q1 fr
      obtain ⟨g1, T1⟩ := sameT q1 (fr.tp.elim (fun z => z.1) fun z => (by cases z.1)) (fr.tp.elim (fun z => z.2) fun z => (by cases z.1)) fr.go fr.rel.toTR
      exact h V.non H1 F1 g1 T1 (.rp .non)
    | rt x m t1 =>
      intro aT1 F1 v H1 q1 q2 g1 R1 V1
      obtain ⟨g2, T1⟩ := sameT q1 (q2.elim (fun z => z.1) fun z => (by cases z)) (q2.elim (fun z => z.2) fun z => (by cases z)) g1 R1
      exact h v H1 F1 g2 T1 V1
    | ex cc p s1 => exact (nx _ _ _ rfl).elim
    | bad => exact h
theorem lw_ok (b : Bas S) {l : Nat} (ih : ∀ l', l' ≤ l → LvOk S P w base l') {d : FnD} {a : Str} (D : WdOk S d a) {f : Nat} {gl : Nat → Option PyData} {fns : List Fn} {wf : Nat} (hgm : S.gm = cal gl fns wf) (hf : fns[f]? = some d.F) (hs : S.s = S.s.base) (hst : S.stp = false) :
    LwOk S P w base (l + 1) f d.x := by
  refine ⟨fun X W e1 e2 e3 e4 e5 hr tk hgl hN200 htab params body scope p lpos pos bx L hdef hbind hbody => ?_⟩
  obtain ⟨fa, fd, hm, FD⟩ := D.fd
  have hB := FD.bindsN D.bd
  have hkp := FD.kp
  obtain ⟨oc, od, dV, kV, doc, pm, an, cdv, ct, osl, hfd, lk, hcd, _, _⟩ := FD.ex
  obtain ⟨co, T, t1, t2, t3, t4⟩ := htab
  rw [hfd] at lk hB
  rw [D.ps] at hB
  have sc := D.sc
  rw [D.ps] at sc
  have hr' : ∀ s : Shared, Room (l + 1) (X.A.deeper (envOfC d.x d.scope s.heap.objs.size fa cdv)) := fun s => hr.deeper _
  have bd : ∀ (A : Around) (outer : List PySem.Env) (s : Shared) (H : Hp) (E : XK) (f c' : Addr), Room l (A.deeper (LamX.lamEnv X scope s.heap.objs.size f c')) → PE (LamX.lamCx X A outer s H E scope f c') body (tBd S bx l E) := by
    cases l with
    | zero => exact fun A outer s H E f c' _ => ⟨fun _ _ _ _ _ _ h => h.elim⟩
    | succ l => exact fun A outer s H E f c' hr2 => hbody l rfl A outer s H E f c' hr2
  have main := LamX.pe_lamcall (X := X) (T := S.s.tb) (p := p) (lpos := lpos) (pos := pos) hgl (by rw [e4]; exact hm) (by rw [e3]; exact hkp) (by rw [e3]; exact lk) (by rw [e3]; exact hcd) (by rw [e3]; exact hB) sc D.n0 D.va (gives_w (bx := bx) b ih D hgm hf hs hst e1 e2 e3 e4 e5 hr') t2 t1 t3 t4 hr L hdef hbind bd D.dx D.d1 D.d2
  refine ⟨fun pins s0 σ H Q I h => main.run pins s0 σ H Q I ?_⟩
  obtain ⟨aT, F, fl, r, t, hst0, R, h⟩ := h
  have hst0 : aT.s = S.s.base := hst0
  have tb0 : aT.s.tb = S.s.tb := by rw [hst0]; rfl
  have h : Post ((S.gm (l + 1)).cl f [.lam bx (shut r)] t) _ _ := h
  have hlen : σ.length ≤ 200 := by rw [I.len]; exact hN200
  let is := retE (.call f (.cons (.lam bx) .nil))
  have mem : ∀ i, i < 200 → i ∈ is := fun i hi => by
    show i ∈ List.range 200 ++ []
    rw [List.append_nil]
    exact List.mem_range.mpr hi
  have RB : Rel S.K aT (fun a => F a ∨ OA fl σ is a) (flx fl ([] ++ is)) r t σ H := R.block [] is
  have ff : flx fl ([] ++ is) = fun _ => false := funext fun i => by
    cases q : flx fl ([] ++ is) i with
    | false => rfl
    | true =>
      obtain ⟨q1, q2⟩ := flx_iff.mp q
      obtain ⟨v, hv⟩ := R.own i q1
      have : i < r.length := by
        refine Decidable.byContradiction fun hn => ?_
        unfold getV at hv
        rw [List.getElem?_eq_none (by omega)] at hv
        cases hv
      exact (q2 (mem i (by rw [← R.len] at this; omega))).elim
  rw [ff] at RB
  refine ⟨by rw [← tb0]; exact R.tabs, fun H1 eN T1 => ?_⟩
  have nx : NX aT H H1 := ⟨fun a o e _ n => eN a o e n⟩
  have no : ∀ a, Nw H1 a → Nw H a := fun a z o e => by
    refine Classical.byContradiction fun hn => ?_
    exact z.no (eN a o e fun ps q => hn ⟨ps, q⟩) fun ps q => hn ⟨ps, q⟩
  have k := RB.keepF nx
  have gA : Go aT (fun a => F a ∨ OA fl σ is a) H (fun a => F a ∨ OA fl σ is a) H1 := ⟨nx, fun _ z => z, fun _ z => .inl z, no⟩
  have RA : Rel S.K aT (fun a => F a ∨ OA fl σ is a) (fun _ => false) r t σ H1 := by
    refine ⟨⟨fun a z => ?_, fun ts ht => ?_, RB.none, by rw [tb0]; exact T1⟩, RB.len, fun i v hv => ?_, fun i z => (by cases z), fun i j a z => (by cases z)⟩
    · obtain ⟨o, e, pl⟩ := RB.dom a z
      refine ⟨o, eN a o e fun ps q => ?_, pl⟩
      subst q
      exact pl
    · obtain ⟨a, xs, z1, z2, z3, z4, z5⟩ := RB.tape ts ht
      exact ⟨a, xs, z1, eN a _ z2 (fun ps q => by cases q), z3, z4, z5.keep ⟨fun b p e => k.e b p e, fun b o m e => k.a b o (z4 b m) e, fun b us e => k.t b us e, fun b o us e => k.f b o us e⟩ fun b m => m⟩
    · obtain ⟨x, hx, q⟩ := RB.slot i v hv
      refine ⟨x, hx, ?_⟩
      unfold SltR at q ⊢
      rw [if_neg (fun z => by cases z)] at q ⊢
      cases v with
      | d y => exact Rp.keep q k fun _ z => z
      | scr ns =>
        obtain ⟨a, e1, e2⟩ := q
        exact ⟨a, e1, e2.keep k fun _ z => z⟩
      | lam b0 q0 =>
        obtain ⟨lm, l1, l2, l3, l4, l5⟩ := q
        exact ⟨lm, l1, l2, l3, k.e _ _ l4, l5.keep k fun _ z => z⟩
      | _ => exact q
  obtain ⟨gB, R2⟩ := back R gA RA.toTR
  have eF : (fun a => ((F a ∨ OA fl σ is a) ∧ ¬ OA fl σ is a) ∨ OA fl σ is a) = fun a => F a ∨ OA fl σ is a := funext fun a => propext ⟨fun z => z.elim (fun z => z.1) .inr, fun z => by
    by_cases m : OA fl σ is a
    · exact .inr m
    · exact .inl ⟨z, m⟩⟩
  refine ⟨aT, _, r, t, σ, hst0, RA, fun E HZ Q' z => act_bd hgm z, h.mono (fun x t2 h v H' F3 g3 T3 V3 => ?_) fun _ _ _ _ => trivial⟩
  have g3' : Go aT (fun a => ((F a ∨ OA fl σ is a) ∧ ¬ OA fl σ is a) ∨ OA fl σ is a) H1 F3 H' := by rw [eF]; exact g3
  obtain ⟨g4, R4⟩ := back R2 g3' T3
  exact h v H' _ (gB.trans g4) R4 ((back_v (O := OA fl σ is) V3).sub no fun a z => z)
end
end Ev

set_option Elab.async false
set_option autoImplicit false
set_option linter.all false
set_option maxRecDepth 100000
set_option maxHeartbeats 2000000
/-! All defs, all levels. -/
namespace Ev
open PySem PySem.Spec PyProof.Rows L2
/-- the program's defs stand as the table says -/
structure PgOk (S : Sx) (base : Heap) (fns : List Fn) : Prop where
  df : ∀ (f : Nat) (x : Str) (ps : List Str) (g : Bool), S.T.fns[f]? = some (x, ps, g) → x ≠ "" → ∃ d, DfOk S base d ∧ d.x = x ∧ d.g = g ∧ fns[f]? = some d.F
  lw : ∀ (f : Nat) (x : Str), S.T.lw = some (f, x) → ∃ d a, WdOk S d a ∧ d.x = x ∧ fns[f]? = some d.F
section
variable {S : Sx} {P : Program} {w : World} {base : Heap}
theorem lv0 {gl : Nat → Option PyData} {fns : List Fn} {wf : Nat} (pg : PgOk S base fns) (hgm : S.gm = cal gl fns wf) : LvOk S P w base 0 where
  cl := fun f x ps g h1 h2 => by
    obtain ⟨d, D, rfl, rfl, _⟩ := pg.df f x ps g h1 h2
    obtain ⟨fa, fd, hm, FD, _⟩ := D.fd
    refine ⟨fa, hm, FD.kp, ?_⟩
    intro X W e1 e2 e3 e4 e5 hr hg tk pins s σ H us vs Q I rv h
    obtain ⟨aT, F, t, vls, hst0, R, as, h⟩ := h
    have e : (S.lev 0).M = cal gl fns wf 0 := by show S.gm 0 = _; rw [hgm]
    rw [e] at h
    exact h.elim
  lw := fun f x h1 => ⟨fun X W e1 e2 e3 e4 e5 hr tk hgl hN htab params body scope p lpos pos b L hdef hbind hbody => ⟨fun pins s σ H Q I h => by
    obtain ⟨aT, F, fl, r, t, hst0, R, h⟩ := h
    have h : Post ((S.gm 0).cl f [.lam b (shut r)] t) _ _ := h
    rw [hgm] at h
    exact h.elim⟩⟩
theorem all_ok (b : Bas S) {gl : Nat → Option PyData} {fns : List Fn} {wf : Nat} (pg : PgOk S base fns) (hgm : S.gm = cal gl fns wf) (hs : S.s = S.s.base) (hst : S.stp = false) : ∀ n l, l ≤ n → LvOk S P w base l
  | 0, l, h => by
    have : l = 0 := by omega
    subst this
    exact lv0 pg hgm
  | n + 1, l, h => by
    have ih := all_ok b pg hgm hs hst n
    cases l with
    | zero => exact lv0 pg hgm
    | succ l =>
      have ih' : ∀ l', l' ≤ l → LvOk S P w base l' := fun l' h' => ih l' (by omega)
      refine ⟨fun f x ps g h1 h2 => ?_, fun f x h1 => ?_⟩
      · obtain ⟨d, D, rfl, rfl, hf⟩ := pg.df f x ps g h1 h2
        exact call_ok b ih' D hgm hf hs hst
      · obtain ⟨d, a, D, rfl, hf⟩ := pg.lw f x h1
        exact lw_ok b ih' D hgm hf hs hst
end
end Ev

set_option Elab.async false
set_option autoImplicit false
set_option linter.all false
set_option maxRecDepth 100000
set_option maxHeartbeats 2000000
/-! The law's def. -/
namespace Ev
open PySem PySem.Spec PyProof.Rows L2
/-- what the law's def asks and gives -/
def spLaw (K : PySem.W.Frag) (tb : List (Addr × Str)) (ok : List Int → Prop) : Sp := fun vs H Q _ => ∃ a ns, vs = [.ref a] ∧ SqL K H a (ns.map V.int) ∧ (∀ p ∈ tb, H p.1 = some (.tbl #[])) ∧ ok ns ∧ ∀ H', Q (.bl true) H'
structure LdOk (S : Sx) (base : Heap) (d : FnD) (fa : Addr) (fd : FuncData) : Prop where
  fun_ : FunD S.K d.x d.x d.params d.body d.scope [] [] fa fd
  lm : d.lam = true → ∀ (params : Arguments) (body : List Stmt) (scope : Scope) (dV kV doc pm : Value) (an : Option Addr) (cdv ct : Value), fd = PySem.W.fnOf d.x d.x params body scope dV kV doc pm an cdv ct → LmF S base d.x cdv
  sc : FnScope d.N d.ps d.scope
  ps : d.ps.length = 1
  g : d.g = false
  sl : d.F.sl = d.N.length
  ck : (cs d.F.body (d.c S.T true none)).many d.body = true
section
variable {S : Sx} {P : Program} {w : World} {base : Heap}
def lawEv (g : Gm) (F : Fn) (ns : List Int) : Out := evS g F.body ⟨[some (.scr ns)] ++ List.replicate (F.sl - 1) none, List.replicate F.sl false, none⟩
theorem law_fn (b : Bas S) {l : Nat} (ih : ∀ l', l' ≤ l → LvOk S P w base l') {d : FnD} {fa : Addr} {fd : FuncData} (D : LdOk S base d fa fd) (hs : S.s = S.s.base) :
    FnOk P w S.K S.mg base (L2.CX P w) (l + 2) fa fd d.ps (spLaw S.K S.s.tb fun ns => ∃ m t, lawEv (S.gm l) d.F ns = .rt (.bool true) m t) := by
  obtain ⟨oc, od, dV, kV, doc, pm, an, cdv, ct, osl, hfd, lk, hcd, _, _⟩ := D.fun_.ex
  have hlm := D.lm
  rw [hfd] at lk
  have len : ∀ vs H Q E, spLaw S.K S.s.tb (fun ns => ∃ m t, lawEv (S.gm l) d.F ns = .rt (.bool true) m t) vs H Q E → vs.length = d.ps.length := fun vs H Q E h => by
    obtain ⟨a, ns, rfl, _⟩ := h
    exact D.ps.symm
  rw [hfd]
  refine fn_of lk hcd D.sc len fun A outer s H vs Q E hr h => ?_
  have G : Good { S.lev l with W := fun c1 d1 _ H1 => E c1 d1 H1, s := S.s.base, stp := true } (d.c S.T true none) (cxOf (L2.CX P w) P w S.K S.mg base d.N d.x d.scope fa cdv A outer s H E) :=
    Good.ofFn b ih D.sc (CX := L2.CX P w) (fa := fa) (cdv := cdv) (A := A) (outer := outer) (s := s) (H := H) (E := E) rfl rfl (.inl rfl) hr (fun z => by rw [D.g] at z; cases z) (takes_of rfl rfl rfl rfl) (passes_of rfl) (fun q => hlm q _ _ _ _ _ _ _ _ _ _ hfd) rfl rfl (fun _ => rfl) (fun a q => by cases q)
  refine ⟨_, (cs_ok _ _ _ _ G rfl).many _ D.ck, ?_⟩
  obtain ⟨a, ns, rfl, hS, hT, ⟨m, t, hok⟩, hQ⟩ := h
  let F : Addr → Prop := fun b => b = a ∧ H a = some (.lst (ns.map V.int))
  have scr : ScrR S.K F H a ns := by
    rcases hS with (h | ⟨ob, h⟩) | h
    · exact .inr (.inr ⟨⟨rfl, h⟩, h⟩)
    · exact .inl ⟨ob, h⟩
    · exact .inr (.inl h)
  have hN : 1 ≤ d.N.length := by
    have := congrArg List.length D.sc.pre
    rw [List.length_take, D.ps] at this
    omega
  have R : TR S.K ⟨none, fun _ => False, S.s.base⟩ F none H := ⟨fun b z => ⟨.lst (ns.map V.int), by obtain ⟨z1, z2⟩ := z; subst z1; exact z2, True.intro⟩, fun ts z => (by cases z), fun _ => rfl, fun p hp => ⟨#[], hT p hp, True.intro, fun pos cv z => (by cases z)⟩⟩
  have R0 : Rel S.K ⟨none, fun _ => False, S.s.base⟩ F (flg (List.replicate d.N.length false)) ([Vl.scr ns].map some ++ List.replicate (d.N.length - 1) none) none (L2.start d.N [V.ref a]) H :=
    rel_start R (.cons ⟨a, rfl, scr⟩ .nil) hN rfl
  refine ⟨⟨⟨none, fun _ => False, S.s.base⟩, F, H, F, H⟩, ⟨none, fun _ => False, S.s.base⟩, F, ⟨[some (.scr ns)] ++ List.replicate (d.N.length - 1) none, List.replicate d.N.length false, none⟩, rfl, ?_, ?_⟩
  · refine ⟨R0, .refl, fun i a z => ?_, .inl ⟨rfl, rfl⟩, ?_, .refl, fun _ z => z⟩
    · have z : flg (List.replicate d.N.length false) i = true := z
      rw [flg_rep] at z
      cases z
    · show (List.replicate d.N.length false).length = ([some (Vl.scr ns)] ++ List.replicate (d.N.length - 1) none).length
      simp only [List.length_append, List.length_replicate, List.length_cons, List.length_nil]
      omega
  · have e : evS ({ S.lev l with W := fun c1 d1 _ H1 => E c1 d1 H1, s := S.s.base, stp := true } : Sx).M d.F.body ⟨[some (.scr ns)] ++ List.replicate (d.N.length - 1) none, List.replicate d.N.length false, none⟩ = .rt (.bool true) m t := by
      have hok : evS (S.gm l) d.F.body ⟨[some (.scr ns)] ++ List.replicate (d.F.sl - 1) none, List.replicate d.F.sl false, none⟩ = _ := hok
      rw [D.sl] at hok
      exact hok
    rw [e]
    intro aT1 F1 v H1 q1 q2 g1 R1 V1
    rcases V1 with ⟨_, h⟩ | ⟨_, a1, _, _, _, h⟩
    · cases h
      exact hQ H1
    · rcases h with ⟨xs, ds, z, _⟩ | ⟨xs, ds, z, _⟩ <;> cases z
end
end Ev

set_option Elab.async false
set_option autoImplicit false
set_option linter.all false
set_option maxRecDepth 100000
set_option maxHeartbeats 2000000
/-! The law, at its row's end. -/
namespace Ev
open PySem PySem.Spec PyProof.Rows L2
theorem law_at {S : Sx} {l : PySem.W.OpenLaw} {w : World} {mg : Str → Option Value} {h : Heap} {fa : Addr} {fd : FuncData} {d : FnD} {x : Str} {n lv : Nat} {cs : List (Addr × Addr)} {gl : Nat → Option PyData} {fns : List Fn} {wf : Nat} (hmg : S.mg = mg) (hgm : S.gm = cal gl fns wf) (hs : S.s = S.s.base) (hst : S.stp = false)
    (hT : ∀ p ∈ cs, h.get? p.2 = some { cls := .none, data := .fields #[] }) (nT : ∀ p ∈ cs, S.K.lookup p.2 = none) (C : ∀ p ∈ cs, PySem.W.CodeHd h p.1 p.2) (htb : ∀ p ∈ S.s.tb, ∃ c, (c, p.1) ∈ cs) (hx : d.ps = [x])
    (hb : ∀ (s : Shared) (u : Value), BindsTo s fd ⟨[u], []⟩ [(x, u)])
    (hB : ∀ base : Heap, S.K.In base → base.Ns mainGlobals mg → (∀ p ∈ cs, LamX.TabB base mg p.1 p.2) → Bas S ∧ PgOk S base fns ∧ LdOk S base d fa fd)
    (hok : ∀ ns : List Int, ns.length ≤ n → (∀ z ∈ ns, Builtin.Int.intBits z ≤ 1048576) → ∃ m t, lawEv (cal gl fns wf lv) d.F ns = .rt (.bool true) m t) :
    LamX.LawAtS l w S.K (L2.CX l.prog w) (lv + 2) n x mg fa h := by
  refine ⟨fd, cs, spLaw S.K S.s.tb fun ns => ∃ m t, lawEv (S.gm lv) d.F ns = .rt (.bool true) m t, hT, nT, C, hb, fun H a ns hl hbits hH hS => ?_, fun base KX hns TB => ?_⟩
  · refine ⟨a, ns, rfl, hS, fun p hp => ?_, by rw [hgm]; exact hok ns hl hbits, fun _ => rfl⟩
    obtain ⟨c, q⟩ := htb p hp
    exact hH _ q
  · obtain ⟨b, pg, D⟩ := hB base KX hns TB
    have F := law_fn (P := l.prog) (w := w) b (l := lv) (fun l' h' => all_ok b pg hgm hs hst lv l' h') D hs
    rw [hx, hmg] at F
    exact F
end Ev

set_option Elab.async false
set_option autoImplicit false
set_option linter.all false
set_option maxRecDepth 100000
set_option maxHeartbeats 2000000
/-! The row's end, where the law's def may ask that no guard is held. -/
namespace Ev
open PySem PySem.Spec PyProof.Rows L2
/-- what is tracked at the law's call: the tables, the script if it is no object of the top -/
def hp0 (K : PySem.W.Frag) (ts : List Addr) (a : Addr) (ob : Obj) (xs : List V) : Hp := fun b =>
  if b ∈ ts then some (.tbl #[]) else if b = a ∧ K.lookup a = none then some (.frz ob (.lst xs)) else none
section
variable {K : PySem.W.Frag} {ts : List Addr} {a : Addr} {ob : Obj} {xs : List V}
theorem hp0_in {b : Addr} (h : b ∈ ts) : hp0 K ts a ob xs b = some (.tbl #[]) := by unfold hp0; rw [if_pos h]
theorem hp0_at (h : a ∉ ts) (hk : K.lookup a = none) : hp0 K ts a ob xs a = some (.frz ob (.lst xs)) := by unfold hp0; rw [if_neg h, if_pos ⟨rfl, hk⟩]
theorem hp0_some {b : Addr} {u : HO} (e : hp0 K ts a ob xs b = some u) : (b ∈ ts ∧ u = .tbl #[]) ∨ (b ∉ ts ∧ b = a ∧ K.lookup a = none ∧ u = .frz ob (.lst xs)) := by
  unfold hp0 at e
  by_cases h : b ∈ ts
  · rw [if_pos h] at e
    cases e
    exact .inl ⟨h, rfl⟩
  · rw [if_neg h] at e
    by_cases q : b = a ∧ K.lookup a = none
    · rw [if_pos q] at e
      cases e
      exact .inr ⟨h, q.1, q.2, rfl⟩
    · rw [if_neg q] at e
      cases e
end
/-- the law's def, called by the row's caller -/
def Runs (P : Program) (w : World) (K : PySem.W.Frag) (mg : Str → Option Value) (CX : CXT) (fa a : Addr) (cs : List (Addr × Addr)) (ns : List Int) (s : Shared) : Prop :=
  ∀ (base : Heap) (H : Hp), Env0 P w K mg base callerA [] s H → K.In base → base.Ns mainGlobals mg → (∀ p ∈ cs, LamX.TabB base mg p.1 p.2) → (∀ p ∈ cs, H p.2 = some (.tbl #[])) → SqL K H a (ns.map V.int) →
    codeAny (model P w) callerA (.call (.ref fa) ⟨[.ref a], []⟩) (CR CX [] P w H s (fun v _ => v = .bl true) fun _ _ _ => False) s
theorem ends {P : Program} {w : World} {K : PySem.W.Frag} {mg mb : Str → Option Value} {CX : CXT} {fa a : Addr} {cs : List (Addr × Addr)} {s : Shared} {vs : List Value} {ns : List Int}
    (inK : K.In s.heap) (nsG : s.heap.Ns mainGlobals mg) (nsB : s.heap.Ns builtinsNs mb) (isB : ∀ x : Str, x ≠ "__name__" → mb x = bootBuiltins x) (nl : s.heap.NoLimit) (noG : s.gens = #[])
    (tab : ∀ p ∈ cs, s.heap.get? p.2 = some { cls := .none, data := .fields #[] }) (tabK : ∀ p ∈ cs, K.lookup p.2 = none) (cod : ∀ p ∈ cs, PySem.W.CodeHd s.heap p.1 p.2)
    (mainB : ∃ (m : Addr) (o : Obj), mg "__builtins__" = some (.ref m) ∧ m ≠ builtinsNs ∧ s.heap.get? m = some o ∧ o.cls = .type "module" ∧ o.dict = some builtinsNs ∧ o.data = .plain)
    (scr : s.heap.get? a = some { cls := .type "list", data := .seq vs.toArray }) (iar : IntsAre vs ns) (short : ns.length ≤ sizeLine)
    (noX : ∀ H e s', CX [] H s (fun _ _ _ => False) e s' → False) (run : Runs P w K mg CX fa a cs ns s) :
    codeAny (model P w) callerA (.call (.ref fa) ⟨[.ref a], []⟩) (fun r s' => r = .ok (.ret (.bool true)) ∧ OldK s.heap s'.heap ∧ s'.os = s.os ∧ AllBare s'.gens) s := by
  let ts : List Addr := cs.map (·.2)
  let ob : Obj := { cls := .type "list", data := .seq vs.toArray }
  let H : Hp := hp0 K ts a ob (ns.map V.int)
  have vls : Vals (ns.map V.int) vs := vals_ints iar
  have mem : ∀ p ∈ cs, p.2 ∈ ts := fun p m => List.mem_map.mpr ⟨p, m, rfl⟩
  have atT : ∀ b ∈ ts, s.heap.get? b = some { cls := .none, data := .fields #[] } := fun b m => by
    obtain ⟨p, m', rfl⟩ := List.mem_map.mp m
    exact tab p m'
  have noT : a ∉ ts := fun m => by
    have e := (atT a m).symm.trans scr
    exact absurd (congrArg Obj.data (Option.some.inj e)) (fun z => by cases z)
  -- an object that is neither a table nor the script is not tracked
  have free : ∀ {b : Addr} {o : Obj}, s.heap.get? b = some o → (∀ xs n, o.data ≠ .seq xs n) → o.data ≠ .fields #[] → H b = none := fun {b o} e n1 n2 => by
    cases q : H b with
    | none => rfl
    | some u =>
      rcases hp0_some q with ⟨m, _⟩ | ⟨_, rfl, _, _⟩
      · have e2 := Option.some.inj ((atT b m).symm.trans e)
        exact (n2 (by rw [← e2])).elim
      · have e2 := Option.some.inj (scr.symm.trans e)
        exact (n1 _ _ (by rw [← e2])).elim
  have dict : ∀ {b : Addr} {m : Str → Option Value}, s.heap.Ns b m → (hidT s.heap H).Ns b m := fun {b m} q => by
    obtain ⟨o, es, ep, e, d, r⟩ := q
    refine ⟨o, es, ep, hidT_get e (free e (fun xs n z => ?_) fun z => ?_), d, r⟩
    · rw [d] at z; cases z
    · rw [d] at z; cases z
  have inB : K.In (hidT s.heap H) := fun b o e => by
    refine hidT_get (inK b o e) ?_
    cases q : H b with
    | none => rfl
    | some u =>
      rcases hp0_some q with ⟨m, _⟩ | ⟨_, rfl, z, _⟩
      · obtain ⟨p, m', rfl⟩ := List.mem_map.mp m
        have := (tabK p m').symm.trans e
        cases this
      · have := z.symm.trans e
        cases this
  have ok : HOk P w H s.heap := fun b u q => by
    rcases hp0_some q with ⟨m, rfl⟩ | ⟨_, rfl, _, rfl⟩
    · exact atT b m
    · refine ⟨scr, ?_, vs, _, vls, scr⟩
      rw [List.length_map]
      exact short
  have tabs : ∀ p ∈ cs, LamX.TabB (hidT s.heap H) mg p.1 p.2 := fun p m => by
    refine ⟨?_, ?_, fun z => ?_⟩
    · obtain ⟨o, us, c1, c2, c3, c4, c5, c6, c7, e, d1, d2, d3, rest⟩ := cod p m
      refine ⟨o, us, c1, c2, c3, c4, c5, c6, c7, hidT_get e (free e (fun xs n z => ?_) fun z => ?_), d1, d2, d3, rest⟩
      · rw [d2] at z; cases z
      · rw [d2] at z
        cases z
        simp at d3
    · obtain ⟨bm, o, e1, e2, e3, e4, e5, e6⟩ := mainB
      refine ⟨bm, o, e1, e2, fun z => ?_, fun z => ?_, hidT_get e3 (free e3 (fun xs n z => ?_) fun z => ?_), e4, e5, e6⟩
      · obtain ⟨o', es, ep, q, d, _⟩ := nsG
        rw [← z, e3] at q
        cases q
        rw [e6] at d
        cases d
      · rw [z, tab p m] at e3
        cases e3
        cases e6
      · rw [e6] at z; cases z
      · rw [e6] at z; cases z
    · obtain ⟨o', es, ep, q, d, _⟩ := nsG
      rw [z, tab p m] at q
      cases q
      cases d
  have md : L2.Mod K mg (hidT s.heap H) := by
    refine ⟨inB, dict nsG, ⟨mb, dict nsB, isB⟩, ?_⟩
    obtain ⟨ml, q1, q2⟩ := nl
    exact ⟨ml, dict q1, q2⟩
  have none_ : ∀ b : Addr, b ∉ ([] : List Addr) := fun b z => (by cases z)
  have e0 : Env0 P w K mg (hidT s.heap H) callerA [] s H := ⟨rfl, md, fun b o e => of_hidT e, Nat.le_of_eq (hidT_size _ _), True.intro, fun b z => (none_ b z).elim, ok, .of_eq noG⟩
  have sq : SqL K H a (ns.map V.int) := by
    cases hk : K.lookup a with
    | none => exact .inl (.inr ⟨ob, hp0_at noT hk⟩)
    | some o =>
      have e := Option.some.inj ((inK a o hk).symm.trans scr)
      subst e
      refine .inr ⟨_, vs.toArray, _, hk, rfl, rfl, rfl, ?_, by simpa using vls⟩
      rw [List.size_toArray, iar.length]
      exact short
  refine codeAny_mono (run _ H e0 inB (dict nsG) tabs (fun p m => hp0_in (mem p m)) sq) fun r s' q => ?_
  match r, q with
  | .error e, q => exact (noX H e s' q).elim
  | .ok .next, q => exact q.elim
  | .ok .brk, q => exact q.elim
  | .ok .cont, q => exact q.elim
  | .ok (.ret u), q =>
    obtain ⟨v, H', osE, bare, un, ok', rel, hv⟩ := q
    have hv : v = .bl true := hv
    subst hv
    have hu : u = Value.bool true := rel
    subst hu
    -- what is no table stays
    have stay : ∀ b o, s.heap.get? b = some o → b ∉ ts → s'.heap.get? b = some o := fun b o e nt => by
      cases q : H b with
      | none => exact un.keep b o e q (none_ b) (none_ b)
      | some u =>
        rcases hp0_some q with ⟨m, _⟩ | ⟨_, rfl, _, rfl⟩
        · exact (nt m).elim
        · have z := (ok' _ _ (un.frzs _ _ _ q)).1
          have := Option.some.inj (scr.symm.trans e)
          rw [← this]
          exact z
    have grow : ∀ b ∈ ts, ∃ more : Array Value, s'.heap.get? b = some { cls := .none, data := .fields more } := fun b m => by
      obtain ⟨more, z⟩ := un.tbls b #[] (hp0_in m)
      exact ⟨_, ok' b _ z⟩
    refine ⟨rfl, ⟨fun b o e => ?_, fun b o e => ?_⟩, osE, bare⟩
    · by_cases m : b ∈ ts
      · obtain ⟨more, z⟩ := grow b m
        obtain ⟨p, mp, rfl⟩ := List.mem_map.mp m
        have := Option.some.inj ((tab p mp).symm.trans e)
        subst this
        refine .inr (.inl ⟨((cod p mp).tab (tab p mp)).isCodeTable, rfl, #[], more, rfl, ?_⟩)
        rw [Array.empty_append]
        exact z
      · exact .inl (stay b o e m)
    · by_cases m : b ∈ ts
      · obtain ⟨more, z⟩ := grow b m
        exact ⟨_, z⟩
      · exact ⟨o, stay b o e m⟩
/-- a law's row, where the law's def is seen to run from the caller's place -/
theorem walkEnd {l : PySem.W.OpenLaw} {n : Nat} {q : Program} {loose : List Str} {XP : (Str → Option Value) → Heap → Prop} {YP : World → Heap → Prop} {d : DefRec} {CX : World → CXT} (hn : l.most = some n) (hn2 : n ≤ sizeLine) (hdf : d.params.defaults = [])
    (noX : ∀ (w : World) (H : Hp) (s : Shared) (e : Value) (s' : Shared), CX w [] H s (fun _ _ _ => False) e s' → False)
    (F : ∀ (w : World) (mg : Str → Option Value) (fa : Addr) (h : Heap), YP w h → h.Ns mainGlobals mg → mg d.name = some (.ref fa) → ∃ (K : PySem.W.Frag) (cs : List (Addr × Addr)), K.In h ∧ (∀ p ∈ cs, h.get? p.2 = some { cls := .none, data := .fields #[] }) ∧ (∀ p ∈ cs, K.lookup p.2 = none) ∧ (∀ p ∈ cs, PySem.W.CodeHd h p.1 p.2) ∧
      ∀ (s : Shared) (a : Addr) (ns : List Int), ns.length ≤ n → (∀ z ∈ ns, Builtin.Int.intBits z ≤ 1048576) → Runs l.prog w K mg (CX w) fa a cs ns s) :
    PySem.W.WalkO q loose XP YP l.row.toRowW d [] (fun f vs => PySem.call f vs) :=
  Att.attach_callB hn hdf fun w s₀ s mg mb fa o pm cd doc a vs ns G Y _ _ _ hm scr iar len bits noG => by
    obtain ⟨K, cs, k1, k2, k3, k4, k5⟩ := F w mg fa _ Y G.T.g hm
    exact ends k1 G.T.g G.T.b G.T.builtins G.T.nolimit noG k2 k3 k4 G.T.bmain scr iar (Nat.le_trans len hn2) (fun H e s' => noX w H s e s') (k5 s a ns len bits)
end Ev

set_option Elab.async false
set_option autoImplicit false
set_option linter.all false
set_option maxRecDepth 100000
set_option maxHeartbeats 2000000
/-! A law's table against the head's facts. -/
namespace Ev
open PySem PySem.Spec PyProof.Rows L2
/-! ### what is looked at -/
def vOf : Value → V
  | .bool b => .bl b
  | .int i _ => .int i
  | .str x _ => .str x
  | .ref a => .ref a
  | _ => .non
mutual
/-- a written value stands for a datum -/
def gB (K : PySem.W.Frag) (u : Value) : PyData → Bool
  | .none => (match u with | .none => true | _ => false)
  | .bool c => (match u with | .bool b => b == c | _ => false)
  | .int j => (match u with | .int i _ => decide (i = j) | _ => false)
  | .str y => (match u with | .str x _ => decide (x = y) | _ => false)
  | .tuple ds => (match u with
    | .ref a => (match K.lookup a with
      | some ⟨.type c, none, .seq its _, _⟩ => decide (c = "tuple") && (decide (its.size ≤ sizeLine) && gBs K its.toList ds)
      | _ => false)
    | _ => false)
  | _ => false
def gBs (K : PySem.W.Frag) (us : List Value) : List PyData → Bool
  | [] => (match us with | [] => true | _ => false)
  | d :: ds => (match us with | u :: us => gB K u d && gBs K us ds | [] => false)
end
section
variable {K : PySem.W.Frag}
theorem tup_of {a : Addr} {ds : List PyData} (h : gB K (.ref a) (.tuple ds) = true) : ∃ (o : Obj) (its : Array Value) (n : Nat), K.lookup a = some o ∧ o.cls = .type "tuple" ∧ o.dict = none ∧ o.data = .seq its n ∧ its.size ≤ sizeLine ∧ gBs K its.toList ds = true := by
  unfold gB at h
  dsimp only at h
  cases q : K.lookup a with
  | none => rw [q] at h; cases h
  | some o =>
    obtain ⟨oc, od, dt, osl⟩ := o
    rw [q] at h
    cases oc with
    | type c =>
      cases od with
      | none =>
        cases dt with
        | seq its n =>
          have h : (decide (c = "tuple") && (decide (its.size ≤ sizeLine) && gBs K its.toList ds)) = true := h
          rw [Bool.and_eq_true, Bool.and_eq_true] at h
          exact ⟨_, its, n, rfl, congrArg Value.type (of_decide_eq_true h.1), rfl, rfl, of_decide_eq_true h.2.1, h.2.2⟩
        | _ => cases h
      | some d => cases dt <;> cases h
    | _ => cases od <;> cases dt <;> cases h
mutual
theorem gB_ok : ∀ (d : PyData) (u : Value), gB K u d = true → RelV (vOf u) u ∧ ∀ H A, Rp K H A (vOf u) d
  | .none, u, h => by
    unfold gB at h
    cases u with
    | none => exact ⟨rfl, fun _ _ => .non⟩
    | _ => cases h
  | .bool c, u, h => by
    unfold gB at h
    cases u with
    | bool b => cases eq_of_beq (show (b == c) = true from h); exact ⟨rfl, fun _ _ => .bl _⟩
    | _ => cases h
  | .int j, u, h => by
    unfold gB at h
    cases u with
    | int i t => cases of_decide_eq_true (show decide (i = j) = true from h); exact ⟨⟨t, rfl⟩, fun _ _ => .int _⟩
    | _ => cases h
  | .str y, u, h => by
    unfold gB at h
    cases u with
    | str x t => cases of_decide_eq_true (show decide (x = y) = true from h); exact ⟨⟨t, rfl⟩, fun _ _ => .str _⟩
    | _ => cases h
  | .tuple ds, u, h => by
    cases u with
    | ref a =>
      obtain ⟨o, its, n, e1, e2, e3, e4, e5, e6⟩ := tup_of h
      obtain ⟨q1, q2⟩ := gBs_ok ds its.toList e6
      exact ⟨rfl, fun H A => .tup (.inr ⟨o, its, n, e1, e2, e4, e5, q1⟩) (q2 H A)⟩
    | _ => unfold gB at h; cases h
  | .list ds, u, h => by unfold gB at h; cases h
  | .dict ds, u, h => by unfold gB at h; cases h
theorem gBs_ok : ∀ (ds : List PyData) (us : List Value), gBs K us ds = true → Vals (us.map vOf) us ∧ ∀ H A, RpA K H A (us.map vOf) ds
  | [], us, h => by
    unfold gBs at h
    cases us with
    | nil => exact ⟨.nil, fun _ _ => .nil⟩
    | cons u us => cases h
  | d :: ds, us, h => by
    unfold gBs at h
    cases us with
    | nil => cases h
    | cons u us =>
      have h : (gB K u d && gBs K us ds) = true := h
      rw [Bool.and_eq_true] at h
      obtain ⟨a1, a2⟩ := gB_ok d u h.1
      obtain ⟨b1, b2⟩ := gBs_ok ds us h.2
      exact ⟨.cons a1 b1, fun H A => .cons (a2 H A) (b2 H A)⟩
end
end
/-- a constant of the module -/
def gloB (K : PySem.W.Frag) (p : Str × PyData) : Bool := match PySem.W.nsIn K mainGlobals p.1 with
  | some (some u) => gB K u p.2
  | _ => false
def clB (K : PySem.W.Frag) (C : Addr) : Bool :=
  decide (PySem.W.findIn K (.ref C) "__getattribute__" = some (some (.builtin "BaseException.__getattribute__"))) && (decide (PySem.W.findIn K (.ref C) "__getattr__" = some none) && (decide (PySem.W.subIn K (.ref C) (.type "BaseException") = some true) && (PySem.W.hasDictIn K C &&
    (decide (PySem.W.findIn K (.ref C) "__class__" = some (some (.builtin "object.__class__"))) && (decide (PySem.W.specialIn K (.builtin "object.__class__") "__get__" = some (some (.builtin "getset_descriptor.__get__"))) &&
      (decide (PySem.W.takesIn K (.builtin "object.__class__") = some true) && decide (PySem.W.mroIn K C (.type "object") = some true)))))))
def excB (K : PySem.W.Frag) (x : Str) : Bool := (He.Fa.glo x).ok K && ((He.Fa.exc x).ok K && clB K (He.ga K x))
def isB (K : PySem.W.Frag) (exs : List Str) : Bool := (List.range exs.length).all fun l =>
  decide (PySem.W.kitOne K (.ref (He.ga K (exs.getD l ""))) (.type "ValueError") = some true) && (decide (PySem.W.exmOne K (.ref (He.ga K (exs.getD l ""))) (.ref (He.ga K (exs.getD 0 ""))) = some true) &&
    (List.range exs.length).all fun k => decide (k = 0) || decide (PySem.W.kitOne K (.ref (He.ga K (exs.getD l ""))) (.ref (He.ga K (exs.getD k ""))) = some (decide (k = l))))
/-- a law: its table, its defs -/
structure LwD where
  T : Tab
  defs : List FnD
  law : FnD
  wf : Nat
/-- the law's own def behind the others -/
def LwD.all (L : LwD) : List FnD := L.defs ++ [L.law]
def LwD.fns (L : LwD) : List Fn := L.defs.map (·.F)
def LwD.gl (L : LwD) : Nat → Option PyData := fun k => (L.T.gls[k]?).map (·.2)
def LwD.tf (L : LwD) : List He.Defn := (L.all.filter (·.lam)).map fun d => (d.x, none)
def FnD.rec_ (d : FnD) : He.DefD := ⟨(d.x, none), d.x, d.x, d.params, d.body, d.scope, [], []⟩
def LwD.fn (L : LwD) : List He.DefD := L.all.map FnD.rec_
def LwD.ex (L : LwD) (K : PySem.W.Frag) : Bool := L.T.gls.all (gloB K) && (blts.all (fun x => (He.Fa.free x).ok K) && (L.T.exs.all (excB K) && (isB K L.T.exs && (L.all.all (fun d => (He.Fa.glo d.x).ok K) && decide (L.tf.map fun p => (He.cT K p).2).Nodup))))
def LwD.hook (L : LwD) (n : Nat) : PySem.W.Hook := He.hookX n [] L.fn [] L.tf L.ex
def LwD.tb (L : LwD) (K : PySem.W.Frag) : List (Addr × Str) := L.tf.map fun p => ((He.cT K p).2, lamN p.1)
def LwD.cs (L : LwD) (K : PySem.W.Frag) : List (Addr × Addr) := L.tf.map (He.cT K)
def LwD.S (L : LwD) (K : PySem.W.Frag) (mg : Str → Option Value) : Sx := { K := K, mg := mg, T := L.T, gm := cal L.gl L.fns L.wf, M := cal L.gl L.fns L.wf 0, W := fun _ _ _ _ => False, s := ⟨L.tb K, none, none⟩, stp := false, lv := 0 }
/-! ### what is seen of the text alone -/
structure DfS (T : Tab) (d : FnD) : Prop where
  bd : ∀ (kV doc pm : Value) (an : Option Addr) (cdv ct : Value) (us : List Value), us.length = d.ps.length → bindArgs (PySem.W.fnOf d.x d.x d.params d.body d.scope .none kV doc pm an cdv ct) ⟨us, []⟩ = pure (d.ps.zip us)
  sc : FnScope d.N d.ps d.scope
  ar : d.F.ar = d.ps.length
  sl : d.F.sl = d.N.length
  ck : (cs d.F.body (d.c T false none)).many d.body = true
structure WdS (T : Tab) (d : FnD) (a : Str) : Prop where
  bd : ∀ (kV doc pm : Value) (an : Option Addr) (cdv ct : Value) (us : List Value), us.length = d.ps.length → bindArgs (PySem.W.fnOf d.x d.x d.params d.body d.scope .none kV doc pm an cdv ct) ⟨us, []⟩ = pure (d.ps.zip us)
  sc : FnScope d.N d.ps d.scope
  ps : d.ps = [a]
  n0 : d.N[0]? = some a
  va : Vis d.scope a
  d1 : (a == ("__debug__" : Str)) = false
  d2 : (a == ("__classdict__" : Str)) = false
  dx : (d.x == ("__debug__" : Str)) = false
  g : d.g = false
  lm : d.lam = false
  ar : d.F.ar = 1
  sl : d.F.sl = d.N.length
  nx : ∀ (g : Gm) (s : Stt) (c : Nat) (p : List PyData) (s' : Stt), evS g d.F.body s ≠ .ex c p s'
  ck : (cs d.F.body (d.c T false (some a))).many d.body = true
structure LdS (T : Tab) (d : FnD) (x : Str) : Prop where
  bd : ∀ (kV doc pm : Value) (an : Option Addr) (cdv ct : Value) (us : List Value), us.length = d.ps.length → bindArgs (PySem.W.fnOf d.x d.x d.params d.body d.scope .none kV doc pm an cdv ct) ⟨us, []⟩ = pure (d.ps.zip us)
  sc : FnScope d.N d.ps d.scope
  ps : d.ps = [x]
  sl : d.F.sl = d.N.length
  ck : (cs d.F.body (d.c T true none)).many d.body = true
def PairOk (T : Tab) : List (Str × List Str × Bool) → List FnD → Prop
  | [], [] => True
  | q :: r, d :: ds => (q.1 ≠ "" → d.x = q.1 ∧ d.g = q.2.2 ∧ DfS T d) ∧ PairOk T r ds
  | _, _ => False
theorem PairOk.at {T : Tab} : ∀ {qs : List (Str × List Str × Bool)} {ds : List FnD} {f : Nat} {x : Str} {ps : List Str} {g : Bool}, PairOk T qs ds → qs[f]? = some (x, ps, g) → x ≠ "" → ∃ d, ds[f]? = some d ∧ d.x = x ∧ d.g = g ∧ DfS T d
  | [], [], _, _, _, _, _, e, _ => by simp at e
  | [], _ :: _, _, _, _, _, h, _, _ => h.elim
  | _ :: _, [], _, _, _, _, h, _, _ => h.elim
  | q :: r, d :: ds, 0, x, ps, g, h, e, n => by
    have e : q = (x, ps, g) := by simpa using e
    subst e
    exact ⟨d, rfl, h.1 n⟩
  | q :: r, d :: ds, f + 1, x, ps, g, h, e, n => by
    obtain ⟨d', h1, h2⟩ := PairOk.at (f := f) (ps := ps) h.2 (by simpa using e) n
    exact ⟨d', by simpa using h1, h2⟩
/-- the law's def runs -/
structure LdOk2 (S : Sx) (base : Heap) (d : FnD) (fa : Addr) (fd : FuncData) : Prop where
  fun_ : FunD S.K d.x d.x d.params d.body d.scope [] [] fa fd
  lm : d.lam = true → ∀ (params : Arguments) (body : List Stmt) (scope : Scope) (dV kV doc pm : Value) (an : Option Addr) (cdv ct : Value), fd = PySem.W.fnOf d.x d.x params body scope dV kV doc pm an cdv ct → LmF S base d.x cdv
section
variable {S : Sx} {P : Program} {w : World} {base : Heap}
theorem law_run (b : Bas S) {l : Nat} (ih : ∀ l', l' ≤ l → LvOk S P w base l') {d : FnD} {x : Str} {fa : Addr} {fd : FuncData} (D0 : LdS S.T d x) (D : LdOk2 S base d fa fd) (hs : S.s = S.s.base) {a : Addr} {ns : List Int} {s : Shared} {H : Hp} (e0 : Env0 P w S.K S.mg base callerA [] s H) (hT : ∀ p ∈ S.s.tb, H p.1 = some (.tbl #[])) (hS : SqL S.K H a (ns.map V.int))
    (hr : Room (l + 2) callerA) (hok : ∃ m t, lawEv (S.gm l) d.F ns = .rt (.bool true) m t) : codeAny (model P w) callerA (.call (.ref fa) ⟨[.ref a], []⟩) (CR (L2.CX P w) [] P w H s (fun v _ => v = .bl true) fun _ _ _ => False) s := by
  obtain ⟨oc, od, dV, kV, doc, pm, an, cdv, ct, osl, hfd, lk, hcd, _, _⟩ := D.fun_.ex
  have hlm := D.lm
  have bd := FunD.bindsA (ps := d.ps) D.fun_ D0.bd s [.ref a] (by rw [D0.ps]; rfl)
  rw [hfd] at lk bd
  refine LamX.run_ofS (vs := [V.ref a]) lk hcd D0.sc hr e0 bd (.cons rfl .nil) (by rw [D0.ps]; rfl) fun hr' => ?_
  have G : Good { S.lev l with W := fun c1 d1 _ H1 => False, s := S.s.base, stp := true } (d.c S.T true none) (cxOf (L2.CX P w) P w S.K S.mg base d.N d.x d.scope fa cdv callerA [] s H fun _ _ _ => False) :=
    Good.ofFn b ih D0.sc (CX := L2.CX P w) (fa := fa) (cdv := cdv) (A := callerA) (outer := []) (s := s) (H := H) (E := fun _ _ _ => False) rfl rfl (.inl rfl) hr' (fun _ => rfl) (takes_of rfl rfl rfl rfl) (passes_of rfl) (fun q => hlm q _ _ _ _ _ _ _ _ _ _ hfd) rfl rfl (fun _ => rfl) (fun a q => by cases q)
  refine ⟨_, (cs_ok _ _ _ _ G rfl).many _ D0.ck, ?_⟩
  obtain ⟨m, t, hok⟩ := hok
  let F : Addr → Prop := fun b => b = a ∧ H a = some (.lst (ns.map V.int))
  have scr : ScrR S.K F H a ns := by
    rcases hS with (h | ⟨ob, h⟩) | h
    · exact .inr (.inr ⟨⟨rfl, h⟩, h⟩)
    · exact .inl ⟨ob, h⟩
    · exact .inr (.inl h)
  have hN : 1 ≤ d.N.length := by
    have := congrArg List.length D0.sc.pre
    rw [List.length_take, D0.ps] at this
    have e1 : [x].length = 1 := rfl
    omega
  have R : TR S.K ⟨none, fun _ => False, S.s.base⟩ F none H := ⟨fun b z => ⟨.lst (ns.map V.int), by obtain ⟨z1, z2⟩ := z; subst z1; exact z2, True.intro⟩, fun ts z => (by cases z), fun _ => rfl, fun p hp => ⟨#[], hT p hp, True.intro, fun pos cv z => (by cases z)⟩⟩
  have R0 : Rel S.K ⟨none, fun _ => False, S.s.base⟩ F (flg (List.replicate d.N.length false)) ([Vl.scr ns].map some ++ List.replicate (d.N.length - 1) none) none (L2.start d.N [V.ref a]) H :=
    rel_start R (.cons ⟨a, rfl, scr⟩ .nil) hN rfl
  refine ⟨⟨⟨none, fun _ => False, S.s.base⟩, F, H, F, H⟩, ⟨none, fun _ => False, S.s.base⟩, F, ⟨[some (.scr ns)] ++ List.replicate (d.N.length - 1) none, List.replicate d.N.length false, none⟩, rfl, ?_, ?_⟩
  · refine ⟨R0, .refl, fun i a z => ?_, .inl ⟨rfl, rfl⟩, ?_, .refl, fun _ z => z⟩
    · have z : flg (List.replicate d.N.length false) i = true := z
      rw [flg_rep] at z
      cases z
    · show (List.replicate d.N.length false).length = ([some (Vl.scr ns)] ++ List.replicate (d.N.length - 1) none).length
      simp only [List.length_append, List.length_replicate, List.length_cons, List.length_nil]
      omega
  · have e : evS ({ S.lev l with W := fun c1 d1 _ H1 => False, s := S.s.base, stp := true } : Sx).M d.F.body ⟨[some (.scr ns)] ++ List.replicate (d.N.length - 1) none, List.replicate d.N.length false, none⟩ = .rt (.bool true) m t := by
      have hok : evS (S.gm l) d.F.body ⟨[some (.scr ns)] ++ List.replicate (d.F.sl - 1) none, List.replicate d.F.sl false, none⟩ = _ := hok
      rw [D0.sl] at hok
      exact hok
    rw [e]
    intro aT1 F1 v H1 q1 q2 g1 R1 V1
    rcases V1 with ⟨_, h⟩ | ⟨_, a1, _, _, _, h⟩
    · cases h
      rfl
    · rcases h with ⟨xs, ds, z, _⟩ | ⟨xs, ds, z, _⟩ <;> cases z
end
/-! ### the head's facts -/
section
variable {L : LwD} {n : Nat} {w : World} {h : Heap} {K : PySem.W.Frag} {mg : Str → Option Value}
theorem ex_parts (e : L.ex K = true) : (∀ p ∈ L.T.gls, gloB K p = true) ∧ (∀ x ∈ blts, (He.Fa.free x).ok K = true) ∧ (∀ x ∈ L.T.exs, excB K x = true) ∧ isB K L.T.exs = true ∧ (∀ d ∈ L.all, (He.Fa.glo d.x).ok K = true) ∧ (L.tf.map fun p => (He.cT K p).2).Nodup := by
  unfold LwD.ex at e
  simp only [Bool.and_eq_true] at e
  obtain ⟨e1, e2, e3, e4, e5, e6⟩ := e
  exact ⟨List.all_eq_true.mp e1, List.all_eq_true.mp e2, List.all_eq_true.mp e3, e4, List.all_eq_true.mp e5, of_decide_eq_true e6⟩
theorem gm_glb (L : LwD) (k l : Nat) : (cal L.gl L.fns L.wf l).glb k = L.gl k := by cases l <;> rfl
theorem cl_of {C : Addr} (e : clB K C = true) : ExcC K C := by
  unfold clB at e
  simp only [Bool.and_eq_true] at e
  obtain ⟨e1, e2, e3, e4, e5, e6, e7, e8⟩ := e
  exact ⟨of_decide_eq_true e1, of_decide_eq_true e2, of_decide_eq_true e3, e4, of_decide_eq_true e5, of_decide_eq_true e6, of_decide_eq_true e7, of_decide_eq_true e8⟩
theorem getD_of {x : Str} {k : Nat} (h : L.T.exs[k]? = some x) : L.T.exs.getD k "" = x ∧ k < L.T.exs.length := by
  obtain ⟨l, e⟩ := List.getElem?_eq_some_iff.mp h
  refine ⟨?_, l⟩
  rw [List.getD_eq_getElem?_getD, h]
  rfl
theorem bas_of (X : K.In h) (G : h.Ns mainGlobals mg) (e : L.ex K = true) : Bas (L.S K mg) := by
  obtain ⟨e1, e2, e3, e4, e5, e6⟩ := ex_parts e
  have glo : ∀ {x : Str} {d : PyData}, (x, d) ∈ L.T.gls → ∃ u, mg x = some u ∧ gB K u d = true := fun {x d} m => by
    have z := e1 _ m
    unfold gloB at z
    cases q : PySem.W.nsIn K mainGlobals x with
    | none => rw [q] at z; cases z
    | some o =>
      rw [q] at z
      cases o with
      | none => cases z
      | some u => exact ⟨u, PySem.W.mg_of X G q, z⟩
  have mem : ∀ {k : Nat} {x : Str}, L.T.exs[k]? = some x → mg x = some (.ref (He.ga K x)) ∧ ExcOk K (He.ga K x) := fun {k x} m => by
    have z := e3 x (List.mem_of_getElem? m)
    unfold excB at z
    rw [Bool.and_eq_true, Bool.and_eq_true] at z
    obtain ⟨z1, z2, z3⟩ := z
    obtain ⟨q1, q2, q3, q4⟩ := He.exc_ok z2
    exact ⟨He.glo_ok X G z1, ⟨q1, q2, q3, q4, cl_of z3⟩⟩
  have at_ : ∀ {k : Nat} {x : Str} {C : Addr}, L.T.exs[k]? = some x → mg x = some (.ref C) → C = He.ga K x := fun {k x C} m e => by
    have z := (mem m).1.symm.trans e
    cases z
    rfl
  have iss : ∀ {l : Nat} {y : Str}, L.T.exs[l]? = some y → PySem.W.kitOne K (.ref (He.ga K y)) (.type "ValueError") = some true ∧ PySem.W.exmOne K (.ref (He.ga K y)) (.ref (He.ga K (L.T.exs.getD 0 ""))) = some true ∧
      ∀ {k : Nat} {x : Str}, L.T.exs[k]? = some x → k ≠ 0 → PySem.W.kitOne K (.ref (He.ga K y)) (.ref (He.ga K x)) = some (decide (k = l)) := fun {l y} m => by
    obtain ⟨g1, g2⟩ := getD_of m
    have z := List.all_eq_true.mp e4 l (List.mem_range.mpr g2)
    simp only [Bool.and_eq_true] at z
    rw [g1] at z
    obtain ⟨z1, z2, z3⟩ := z
    refine ⟨of_decide_eq_true z1, of_decide_eq_true z2, fun {k x} m2 n0 => ?_⟩
    obtain ⟨g3, g4⟩ := getD_of m2
    have y1 := List.all_eq_true.mp z3 k (List.mem_range.mpr g4)
    rw [Bool.or_eq_true, g3] at y1
    rcases y1 with y1 | y1
    · exact (n0 (of_decide_eq_true y1)).elim
    · exact of_decide_eq_true y1
  exact {
    gl := fun k x d m => by
      obtain ⟨u, q1, q2⟩ := glo (List.mem_of_getElem? m)
      obtain ⟨r1, r2⟩ := gB_ok d u q2
      refine ⟨fun l => ?_, u, vOf u, q1, r1, r2⟩
      show (cal L.gl L.fns L.wf l).glb k = some d
      rw [gm_glb]
      show (L.T.gls[k]?).map (·.2) = some d
      have m : L.T.gls[k]? = some (x, d) := m
      rw [m]
      rfl
    gt := fun k x ds m => by
      obtain ⟨u, q1, q2⟩ := glo (List.mem_of_getElem? m)
      cases u with
      | ref a =>
        obtain ⟨o, its, n, f1, f2, f3, f4, f5, f6⟩ := tup_of q2
        obtain ⟨r1, r2⟩ := gBs_ok ds its.toList f6
        exact ⟨a, o, its.toList.map vOf, q1, f1, f2, f3, fun H A => ⟨.inr ⟨o, its, n, f1, f2, f4, f5, r1⟩, r2 H A⟩⟩
      | _ => unfold gB at q2; cases q2
    fr := fun x m => He.free_ok X G (e2 x m)
    ex := fun k x m => ⟨_, (mem m).1, (mem m).2⟩
    ek := fun k l x y C D m1 m2 n0 c1 c2 => by
      rw [at_ m1 c1, at_ m2 c2]
      exact (iss m2).2.2 m1 n0
    ev := fun l y D m c => by
      rw [at_ m c]
      exact (iss m).1
    ec := fun l x y C D m1 m2 c1 c2 => by
      rw [at_ m1 c1, at_ m2 c2]
      have z := (iss m2).2.1
      rw [(getD_of m1).1] at z
      exact z }
theorem lmF_of (c : He.SaysX [] L.fn [] L.tf L.ex w h K) {base : Heap} (TB : ∀ p ∈ L.cs K, LamX.TabB base mg p.1 p.2) {d : FnD} (m : d ∈ L.all) (hl : d.lam = true) {fd : FuncData} {kws : List (Str × V)} (F : FunD K d.x d.x d.params d.body d.scope [] kws (He.ga K d.x) fd)
    (params : Arguments) (body : List Stmt) (scope : Scope) (dV kV doc pm : Value) (an : Option Addr) (cdv ct : Value) (e : fd = PySem.W.fnOf d.x d.x params body scope dV kV doc pm an cdv ct) : LmF (L.S K mg) base d.x cdv := by
  obtain ⟨_, _, _, _, _, nd⟩ := ex_parts c.more
  obtain ⟨oc, od, dV', kV', doc', pm', an', cdv', ct', osl, hfd, lk, hcd, _, _⟩ := F.ex
  have e2 : cdv = cdv' := congrArg FuncData.code (e.symm.trans hfd)
  subst e2
  obtain ⟨co, hco⟩ := He.codeIn_ref hcd
  have mt : ((d.x, none) : He.Defn) ∈ L.tf := List.mem_map.mpr ⟨d, List.mem_filter.mpr ⟨m, hl⟩, rfl⟩
  have hc : He.codeOf K (d.x, none) = co := by
    refine He.codeOf_eq (p := (d.x, none)) lk ?_
    rw [hfd]
    exact hco
  have tb := TB (He.cT K (d.x, none)) (List.mem_map.mpr ⟨_, mt, rfl⟩)
  refine ⟨co, (He.cT K (d.x, none)).2, hco, ?_, List.mem_map.mpr ⟨_, mt, rfl⟩, fun p hp ep => ?_⟩
  · have e3 : (He.cT K (d.x, none)).1 = co := hc
    rw [e3] at tb
    exact tb
  · obtain ⟨q, mq, rfl⟩ := List.mem_map.mp hp
    have ep : (He.cT K q).2 = (He.cT K (d.x, none)).2 := ep
    have : ∀ {l : List He.Defn}, (l.map fun p => (He.cT K p).2).Nodup → q ∈ l → ((d.x, none) : He.Defn) ∈ l → q = (d.x, none) := fun {l} => by
      induction l with
      | nil => intro _ h; cases h
      | cons y r ih =>
        intro nd h1 h2
        rw [List.map_cons, List.nodup_cons] at nd
        rcases List.mem_cons.mp h1 with h1 | h1 <;> rcases List.mem_cons.mp h2 with h2 | h2
        · rw [h1, h2]
        · rw [← h1] at nd
          exact (nd.1 (List.mem_map.mpr ⟨_, h2, ep.symm⟩)).elim
        · rw [← h2] at nd
          exact (nd.1 (List.mem_map.mpr ⟨_, h1, ep⟩)).elim
        · exact ih nd.2 h1 h2
    rw [this nd mq mt]
theorem pg_of (X : K.In h) (G : h.Ns mainGlobals mg) (c : He.SaysX [] L.fn [] L.tf L.ex w h K) (pk : PairOk L.T L.T.fns L.defs) (wd : ∀ (f : Nat) (x : Str), L.T.lw = some (f, x) → ∃ d a, WdS L.T d a ∧ d.x = x ∧ L.defs[f]? = some d) {base : Heap} (TB : ∀ p ∈ L.cs K, LamX.TabB base mg p.1 p.2) : PgOk (L.S K mg) base L.fns := by
  obtain ⟨_, _, _, _, glo, _⟩ := ex_parts c.more
  have fun_ : ∀ {d : FnD}, d ∈ L.all → ∃ fd, FunD K d.x d.x d.params d.body d.scope [] [] (He.ga K d.x) fd := fun {d} m => c.t.d.defs (d := d.rec_) (List.mem_map.mpr ⟨d, m, rfl⟩)
  refine ⟨fun f x ps g e n0 => ?_, fun f x e => ?_⟩
  · obtain ⟨d, h1, h2, h3, D⟩ := pk.at (f := f) e n0
    have m : d ∈ L.all := List.mem_append.mpr (.inl (List.mem_of_getElem? h1))
    obtain ⟨fd, F⟩ := fun_ m
    refine ⟨d, ⟨⟨_, fd, He.glo_ok X G (glo d m), F, fun hl => lmF_of c TB m hl F⟩, D.bd, D.sc, D.ar, D.sl, D.ck⟩, h2, h3, ?_⟩
    show (L.defs.map (·.F))[f]? = _
    rw [List.getElem?_map, h1]
    rfl
  · obtain ⟨d, a, D, h2, h1⟩ := wd f x e
    have m : d ∈ L.all := List.mem_append.mpr (.inl (List.mem_of_getElem? h1))
    obtain ⟨fd, F⟩ := fun_ m
    refine ⟨d, a, ⟨⟨_, fd, He.glo_ok X G (glo d m), F⟩, D.bd, D.sc, D.ps, D.n0, D.va, D.d1, D.d2, D.dx, D.g, D.lm, D.ar, D.sl, D.nx, D.ck⟩, h2, ?_⟩
    show (L.defs.map (·.F))[f]? = _
    rw [List.getElem?_map, h1]
    rfl
/-- all of it: a law's row holds, by its evaluator -/
theorem row_walk {l : PySem.W.OpenLaw} {q : Program} {loose : List Str} {XP : (Str → Option Value) → Heap → Prop} {dr : DefRec} {x : Str} {lv : Nat} (hn : l.most = some 63) (hdf : dr.params.defaults = []) (hnm : dr.name = L.law.x) (hr : Room (lv + 2) callerA) (D : LdS L.T L.law x) (pk : PairOk L.T L.T.fns L.defs)
    (wd : ∀ (f : Nat) (x : Str), L.T.lw = some (f, x) → ∃ d a, WdS L.T d a ∧ d.x = x ∧ L.defs[f]? = some d)
    (hok : ∀ ns : List Int, ns.length ≤ 63 → (∀ z ∈ ns, Builtin.Int.intBits z ≤ 1048576) → ∃ m t, lawEv (cal L.gl L.fns L.wf lv) L.law.F ns = .rt (.bool true) m t) :
    PySem.W.WalkO q loose XP (L.hook n).says l.row.toRowW dr [] (fun f vs => PySem.call f vs) := by
  refine walkEnd (CX := fun w => L2.CX l.prog w) hn (by decide) hdf (fun _ _ _ _ _ z => by obtain ⟨_, _, _, _, _, _, _, _, _, _, _, _, z⟩ := z; exact z) fun w mg fa h Y G hm => ?_
  obtain ⟨K, X, c⟩ : ∃ K : PySem.W.Frag, K.In h ∧ He.SaysX [] L.fn [] L.tf L.ex w h K := Y
  obtain ⟨_, _, _, _, glo, _⟩ := ex_parts c.more
  have m : L.law ∈ L.all := List.mem_append.mpr (.inr List.mem_cons_self)
  have hmx := He.glo_ok X G (glo L.law m)
  rw [hnm] at hm
  cases hm.symm.trans hmx
  obtain ⟨fd, F⟩ : ∃ fd, FunD K L.law.x L.law.x L.law.params L.law.body L.law.scope [] [] (He.ga K L.law.x) fd := c.t.d.defs (d := L.law.rec_) (List.mem_map.mpr ⟨L.law, m, rfl⟩)
  refine ⟨K, L.cs K, X, fun p hp => ?_, fun p hp => ?_, fun p hp => ?_, fun s a ns hl hb base H e0 KB hns TB hT hS => ?_⟩
  · obtain ⟨q, mq, rfl⟩ := List.mem_map.mp hp
    exact c.empty q mq
  · obtain ⟨q, mq, rfl⟩ := List.mem_map.mp hp
    exact c.out q mq
  · obtain ⟨q, mq, rfl⟩ := List.mem_map.mp hp
    exact PySem.W.codeHd_of_K X (c.hd q mq)
  · have b : Bas (L.S K mg) := bas_of X G c.more
    have pg : PgOk (L.S K mg) base L.fns := pg_of X G c pk wd TB
    refine law_run (S := L.S K mg) b (l := lv) (fun l' h' => all_ok b pg rfl rfl rfl lv l' h') D ⟨F, fun hl => lmF_of c TB m hl F⟩ rfl e0 (fun p hp => ?_) hS hr (hok ns hl hb)
    obtain ⟨q, mq, rfl⟩ := List.mem_map.mp hp
    exact hT _ (List.mem_map.mpr ⟨q, mq, rfl⟩)
end
end Ev

set_option Elab.async false
set_option autoImplicit false
set_option linter.all false
set_option maxRecDepth 100000
set_option maxHeartbeats 2000000
/-! Nothing is raised: seen of the text. -/
namespace Ev
open PySem L2
def nexE : Ex → Bool
  | .var _ | .non | .bl _ | .int _ | .str _ | .glb _ | .nil | .isx _ _ => true
  | .cons a r => nexE a && nexE r
  | .tup e | .lst e => nexE e
  | .bin _ a b | .and a b | .or a b | .cmp _ a b | .idx a b => nexE a && nexE b
  | .not a => nexE a
  | .ite c a b => nexE c && (nexE a && nexE b)
  | .met _ a b => nexE a && nexE b
  | .bi _ e => nexE e
  | _ => false
/-- no error comes -/
def NoX {α : Type} (q : Res α) : Prop := ∀ c p t, q ≠ .exc c p t
theorem NoX.bind {α β : Type} {q : Res α} {f : α → Tp → Res β} (h : NoX q) (k : ∀ a t, NoX (f a t)) : NoX (q.bind f) := by
  intro c p t e
  cases q with
  | ok a u => exact k a u c p t e
  | exc c' p' u => exact h c' p' u rfl
  | bad => cases e
theorem NoX.lift {α : Type} {o : Option α} {t : Tp} : NoX (lift o t) := by
  intro c p u e
  cases o <;> cases e
theorem NoX.ok {α : Type} {a : α} {t : Tp} : NoX (.ok a t) := fun _ _ _ e => nomatch e
theorem NoX.bad {α : Type} : NoX (.bad : Res α) := fun _ _ _ e => nomatch e
mutual
theorem nexE_ev (g : Gm) : ∀ (e : Ex) (r : Env) (t : Tp), nexE e = true → NoX (ev g e r t)
  | .var i, r, t, _ => by unfold ev; split <;> first | exact .ok | exact .bad
  | .non, _, _, _ => by unfold ev; exact .ok
  | .bl _, _, _, _ => by unfold ev; exact .ok
  | .int _, _, _, _ => by unfold ev; exact .ok
  | .str _, _, _, _ => by unfold ev; exact .ok
  | .glb _, _, _, _ => by unfold ev; exact .lift
  | .nil, _, _, _ => by unfold ev; exact .bad
  | .cons _ _, _, _, _ => by unfold ev; exact .bad
  | .isx _ _, _, _, _ => by unfold ev; split <;> first | exact .ok | exact .bad
  | .tup e, r, t, h => by unfold ev; exact (nexE_evs g e r t h).bind fun _ _ => .lift
  | .lst e, r, t, h => by unfold ev; exact (nexE_evs g e r t h).bind fun _ _ => .lift
  | .bi _ e, r, t, h => by unfold ev; exact (nexE_evs g e r t h).bind fun _ _ => .lift
  | .bin _ a b, r, t, h => by
    have h : (nexE a && nexE b) = true := h
    rw [Bool.and_eq_true] at h
    unfold ev
    exact (nexE_ev g a r t h.1).bind fun _ u => (nexE_ev g b r u h.2).bind fun _ _ => .lift
  | .and a b, r, t, h => by
    have h : (nexE a && nexE b) = true := h
    rw [Bool.and_eq_true] at h
    unfold ev
    refine (nexE_ev g a r t h.1).bind fun _ u => NoX.lift.bind fun k u => ?_
    split
    · exact nexE_ev g b r u h.2
    · exact .ok
  | .or a b, r, t, h => by
    have h : (nexE a && nexE b) = true := h
    rw [Bool.and_eq_true] at h
    unfold ev
    refine (nexE_ev g a r t h.1).bind fun _ u => NoX.lift.bind fun k u => ?_
    split
    · exact .ok
    · exact nexE_ev g b r u h.2
  | .cmp _ a b, r, t, h => by
    have h : (nexE a && nexE b) = true := h
    rw [Bool.and_eq_true] at h
    unfold ev
    exact (nexE_ev g a r t h.1).bind fun _ u => (nexE_ev g b r u h.2).bind fun _ _ => .lift
  | .idx a b, r, t, h => by
    have h : (nexE a && nexE b) = true := h
    rw [Bool.and_eq_true] at h
    unfold ev
    exact (nexE_ev g a r t h.1).bind fun _ u => (nexE_ev g b r u h.2).bind fun _ _ => .lift
  | .not a, r, t, h => by
    unfold ev
    exact (nexE_ev g a r t h).bind fun _ _ => .lift
  | .ite c a b, r, t, h => by
    have h : (nexE c && (nexE a && nexE b)) = true := h
    rw [Bool.and_eq_true, Bool.and_eq_true] at h
    unfold ev
    refine (nexE_ev g c r t h.1).bind fun _ u => NoX.lift.bind fun k u => ?_
    split
    · exact nexE_ev g a r u h.2.1
    · exact nexE_ev g b r u h.2.2
  | .met _ a b, r, t, h => by
    have h : (nexE a && nexE b) = true := h
    rw [Bool.and_eq_true] at h
    unfold ev
    exact (nexE_ev g a r t h.1).bind fun _ u => NoX.lift.bind fun _ u => (nexE_evs g b r u h.2).bind fun _ _ => .lift
theorem nexE_evs (g : Gm) : ∀ (e : Ex) (r : Env) (t : Tp), nexE e = true → NoX (evs g e r t)
  | .nil, _, _, _ => by unfold evs; exact .ok
  | .cons a q, r, t, h => by
    have h : (nexE a && nexE q) = true := h
    rw [Bool.and_eq_true] at h
    have k : NoX (match a with | .tpv _ | .scv _ | .lam _ => .bad | a => (ev g a r t).bind fun x t => (evs g q r t).bind fun xs t => .ok (Vl.d x :: xs) t) := by
      have z := (nexE_ev g a r t h.1).bind fun x u => (nexE_evs g q r u h.2).bind fun xs t => NoX.ok (a := Vl.d x :: xs) (t := t)
      split
      · exact .bad
      · exact .bad
      · exact .bad
      · exact z
    cases a with
    | tpv i => cases h.1
    | scv i => cases h.1
    | lam i => cases h.1
    | _ => unfold evs; exact k
  | .var _, _, _, _ => by unfold evs; exact .bad
  | .non, _, _, _ => by unfold evs; exact .bad
  | .bl _, _, _, _ => by unfold evs; exact .bad
  | .int _, _, _, _ => by unfold evs; exact .bad
  | .str _, _, _, _ => by unfold evs; exact .bad
  | .glb _, _, _, _ => by unfold evs; exact .bad
  | .isx _ _, _, _, _ => by unfold evs; exact .bad
  | .tup _, _, _, _ => by unfold evs; exact .bad
  | .lst _, _, _, _ => by unfold evs; exact .bad
  | .bi _ _, _, _, _ => by unfold evs; exact .bad
  | .bin _ _ _, _, _, _ => by unfold evs; exact .bad
  | .and _ _, _, _, _ => by unfold evs; exact .bad
  | .or _ _, _, _, _ => by unfold evs; exact .bad
  | .cmp _ _ _, _, _, _ => by unfold evs; exact .bad
  | .idx _ _, _, _, _ => by unfold evs; exact .bad
  | .not _, _, _, _ => by unfold evs; exact .bad
  | .ite _ _ _, _, _, _ => by unfold evs; exact .bad
  | .met _ _ _, _, _, _ => by unfold evs; exact .bad
end
theorem nexE_evR (g : Gm) (e : Ex) (r : Env) (t : Tp) (h : nexE e = true) : NoX (evR g e r t) := by
  induction e generalizing t with
  | call f es => cases h
  | ite c a b _ iha ihb =>
    have h : (nexE c && (nexE a && nexE b)) = true := h
    rw [Bool.and_eq_true, Bool.and_eq_true] at h
    unfold evR
    refine (nexE_ev g c r t h.1).bind fun _ u => NoX.lift.bind fun k u => ?_
    split
    · exact iha u h.2.1
    · exact ihb u h.2.2
  | _ => unfold evR; exact (nexE_ev g _ r t h).bind fun _ _ => .ok
def nexS : St → Bool
  | .nop => true
  | .seq a b => nexS a && nexS b
  | .set _ e => nexE e
  | .app _ e => nexE e
  | .ret e => nexE e
  | .ife c a b => nexE c && (nexS a && nexS b)
  | .tryl _ _ | .trya _ _ _ => true
  | _ => false
def NoO (o : Out) : Prop := ∀ c p s, o ≠ .ex c p s
theorem NoO.out {α : Type} {q : Res α} {s : Stt} {f : α → Tp → Out} (h : NoX q) (k : ∀ a t, NoO (f a t)) : NoO (q.out s f) := by
  intro c p u e
  cases q with
  | ok a t => exact k a t c p u e
  | exc c' p' t => exact h c' p' t rfl
  | bad => cases e
theorem nexS_no (g : Gm) : ∀ (b : St) (s : Stt), nexS b = true → NoO (evS g b s)
  | .nop, s, _ => by unfold evS; exact fun _ _ _ e => nomatch e
  | .seq a b, s, h => by
    have h : (nexS a && nexS b) = true := h
    rw [Bool.and_eq_true] at h
    unfold evS
    have ha := nexS_no g a s h.1
    split
    · exact nexS_no g b _ h.2
    · exact ha
  | .set p e, s, h => by
    unfold evS
    refine .out (nexE_evR g e _ _ h) fun x t => ?_
    split <;> exact fun _ _ _ e => nomatch e
  | .app i e, s, h => by
    unfold evS
    split
    · refine .out (nexE_ev g e _ _ h) fun x t => ?_
      split
      · split <;> exact fun _ _ _ e => nomatch e
      · exact fun _ _ _ e => nomatch e
    · exact fun _ _ _ e => nomatch e
  | .ret e, s, h => by
    unfold evS
    exact .out (nexE_evR g e _ _ h) fun x t => fun _ _ _ e => nomatch e
  | .ife c a b, s, h => by
    have h : (nexE c && (nexS a && nexS b)) = true := h
    rw [Bool.and_eq_true, Bool.and_eq_true] at h
    unfold evS
    refine .out ((nexE_ev g c _ _ h.1).bind fun _ _ => .lift) fun k t => ?_
    split
    · exact nexS_no g a _ h.2.1
    · exact nexS_no g b _ h.2.2
  | .tryl i b, s, _ => by
    unfold evS
    split
    · exact fun _ _ _ e => nomatch e
    · split <;> exact fun _ _ _ e => nomatch e
    · exact fun _ _ _ e => nomatch e
  | .trya j0 i b, s, _ => by
    unfold evS
    split
    · exact fun _ _ _ e => nomatch e
    · split <;> exact fun _ _ _ e => nomatch e
    · exact fun _ _ _ e => nomatch e
theorem nexS_ok {b : St} (h : nexS b = true) : ∀ (g : Gm) (s : Stt) (c : Nat) (p : List PyData) (s' : Stt), evS g b s ≠ .ex c p s' := fun g s c p s' => nexS_no g b s h c p s'
end Ev

set_option Elab.async false
set_option autoImplicit false
set_option linter.all false
set_option maxRecDepth 100000
set_option maxHeartbeats 2000000
/-! More levels, more turns, a tape where none was asked: the evaluator's answer stays. -/
namespace Ev
open PySem L2
/-- the tape: the same, or T0 where there was none -/
def Rt (T0 : Tp) (u u' : Tp) : Prop := u' = u.or T0
theorem Rt.some {T0 : Tp} {x : List PyData} {u' : Tp} (h : Rt T0 (some x) u') : u' = some x := h
def RLe {α : Type} (T0 : Tp) (q q' : Res α) : Prop := match q with
  | .ok a u => ∃ u', q' = .ok a u' ∧ Rt T0 u u'
  | .exc c p u => ∃ u', q' = .exc c p u' ∧ Rt T0 u u'
  | .bad => True
structure GLe (T0 : Tp) (g g' : Gm) : Prop where
  glb : g.glb = g'.glb
  wf : g.wf ≤ g'.wf
  cl : ∀ f vs u u', Rt T0 u u' → RLe T0 (g.cl f vs u) (g'.cl f vs u')
  act : ∀ b r u u', Rt T0 u u' → RLe T0 (g.act b r u) (g'.act b r u')
section
variable {T0 : Tp}
theorem RLe.bad {α : Type} {q : Res α} : RLe T0 .bad q := True.intro
theorem RLe.ok {α : Type} {a : α} {u u' : Tp} (h : Rt T0 u u') : RLe T0 (.ok a u) (.ok a u') := ⟨u', rfl, h⟩
theorem RLe.bind {α β : Type} {q q' : Res α} {f f' : α → Tp → Res β} (h : RLe T0 q q') (k : ∀ a u u', Rt T0 u u' → RLe T0 (f a u) (f' a u')) : RLe T0 (q.bind f) (q'.bind f') := by
  cases q with
  | ok a u => obtain ⟨u', rfl, hu⟩ := h; exact k a u u' hu
  | exc c p u => obtain ⟨u', rfl, hu⟩ := h; exact ⟨u', rfl, hu⟩
  | bad => exact True.intro
theorem RLe.lift {α : Type} {o : Option α} {u u' : Tp} (h : Rt T0 u u') : RLe T0 (lift o u) (lift o u') := by
  cases o with
  | none => exact True.intro
  | some a => exact ⟨u', rfl, h⟩
theorem RLe.quiet {α : Type} {q q' : Res α} (h : RLe T0 q q') : RLe T0 q.quiet q'.quiet := by
  cases q with
  | ok a u => obtain ⟨u', rfl, hu⟩ := h; exact ⟨u', rfl, hu⟩
  | exc c p u => exact True.intro
  | bad => exact True.intro
theorem RLe.ite {α : Type} {b : Bool} {q q' s s' : Res α} (h : RLe T0 q q') (k : RLe T0 s s') : RLe T0 (if b = true then q else s) (if b = true then q' else s') := by
  cases b
  · exact k
  · exact h
theorem mapT_le {f f' : PyData → Tp → Res (Option PyData)} (h : ∀ x u u', Rt T0 u u' → RLe T0 (f x u) (f' x u')) : ∀ (xs : List PyData) (u u' : Tp), Rt T0 u u' → RLe T0 (mapT f xs u) (mapT f' xs u')
  | [], _, _, hu => .ok hu
  | x :: r, u, u', hu => (h x u u' hu).bind fun y u u' hu => (mapT_le h r u u' hu).bind fun ys u u' hu => .ok hu
theorem mapC_le {f f' : PyData → Tp → Res (List PyData)} (h : ∀ x u u', Rt T0 u u' → RLe T0 (f x u) (f' x u')) : ∀ (xs : List PyData) (u u' : Tp), Rt T0 u u' → RLe T0 (mapC f xs u) (mapC f' xs u')
  | [], _, _, hu => .ok hu
  | x :: r, u, u', hu => (h x u u' hu).bind fun y u u' hu => (mapC_le h r u u' hu).bind fun ys u u' hu => .ok hu
theorem part_le {n : Bool} {q q' : Tp → Res PyData} (h : ∀ u u', Rt T0 u u' → RLe T0 (q u) (q' u')) {u u' : Tp} (hu : Rt T0 u u') : RLe T0 (part n q u) (part n q' u') := by
  unfold part
  exact .ite (.ok hu) ((h u u' hu).bind fun x u u' hu => .lift hu)
theorem test_le {n : Bool} {q q' : Tp → Res PyData} (h : ∀ u u', Rt T0 u u' → RLe T0 (q u) (q' u')) {u u' : Tp} (hu : Rt T0 u u') : RLe T0 (test n q u) (test n q' u') := by
  unfold test
  exact .ite (.ok hu) ((h u u' hu).bind fun x u u' hu => .lift hu)
variable {g g' : Gm}
mutual
theorem ev_le (G : GLe T0 g g') : ∀ (e : Ex) (r : Env) (u u' : Tp), Rt T0 u u' → RLe T0 (ev g e r u) (ev g' e r u')
  | .var i, r, u, u', hu => by
    unfold ev
    split
    · exact .ok hu
    · exact .bad
  | .non, _, _, _, hu => by unfold ev; exact .ok hu
  | .bl _, _, _, _, hu => by unfold ev; exact .ok hu
  | .int _, _, _, _, hu => by unfold ev; exact .ok hu
  | .str _, _, _, _, hu => by unfold ev; exact .ok hu
  | .glb k, _, _, _, hu => by unfold ev; rw [G.glb]; exact .lift hu
  | .tup es, r, _, _, hu => by unfold ev; exact (evs_le G es r _ _ hu).bind fun _ _ _ hu => .lift hu
  | .lst es, r, _, _, hu => by unfold ev; exact (evs_le G es r _ _ hu).bind fun _ _ _ hu => .lift hu
  | .dic ks vs, r, _, _, hu => by unfold ev; exact (evs_le G ks r _ _ hu).bind fun _ _ _ hu => (evs_le G vs r _ _ hu).bind fun _ _ _ hu => .lift hu
  | .bin o a b, r, _, _, hu => by unfold ev; exact (ev_le G a r _ _ hu).bind fun _ _ _ hu => (ev_le G b r _ _ hu).bind fun _ _ _ hu => .lift hu
  | .neg a, r, _, _, hu => by unfold ev; exact (ev_le G a r _ _ hu).bind fun _ _ _ hu => .lift hu
  | .not a, r, _, _, hu => by unfold ev; exact (ev_le G a r _ _ hu).bind fun _ _ _ hu => .lift hu
  | .and a b, r, _, _, hu => by unfold ev; exact (ev_le G a r _ _ hu).bind fun _ _ _ hu => (RLe.lift hu).bind fun _ _ _ hu => .ite (ev_le G b r _ _ hu) (.ok hu)
  | .or a b, r, _, _, hu => by unfold ev; exact (ev_le G a r _ _ hu).bind fun _ _ _ hu => (RLe.lift hu).bind fun _ _ _ hu => .ite (.ok hu) (ev_le G b r _ _ hu)
  | .cmp o a b, r, _, _, hu => by unfold ev; exact (ev_le G a r _ _ hu).bind fun _ _ _ hu => (ev_le G b r _ _ hu).bind fun _ _ _ hu => .lift hu
  | .cm2 o p a b c, r, _, _, hu => by unfold ev; exact (ev_le G a r _ _ hu).bind fun _ _ _ hu => (ev_le G b r _ _ hu).bind fun _ _ _ hu => (RLe.lift hu).bind fun _ _ _ hu => .ite ((ev_le G c r _ _ hu).bind fun _ _ _ hu => .lift hu) (.ok hu)
  | .isn a, r, _, _, hu => by unfold ev; exact (ev_le G a r _ _ hu).bind fun _ _ _ hu => .ok hu
  | .nsn a, r, _, _, hu => by unfold ev; exact (ev_le G a r _ _ hu).bind fun _ _ _ hu => .ok hu
  | .ite c a b, r, _, _, hu => by unfold ev; exact (ev_le G c r _ _ hu).bind fun _ _ _ hu => (RLe.lift hu).bind fun _ _ _ hu => .ite (ev_le G a r _ _ hu) (ev_le G b r _ _ hu)
  | .idx a b, r, _, _, hu => by unfold ev; exact (ev_le G a r _ _ hu).bind fun _ _ _ hu => (ev_le G b r _ _ hu).bind fun _ _ _ hu => .lift hu
  | .tix i k, r, _, _, hu => by
    unfold ev
    split
    · refine (ev_le G k r _ _ hu).bind fun y u u' hu => ?_
      cases u with
      | none => exact .bad
      | some ts => rw [hu.some]; exact .lift rfl
    · exact .bad
  | .scs i lo hi, r, _, _, hu => by
    unfold ev
    split
    · exact (part_le (fun u u' hu => ev_le G lo r u u' hu) hu).bind fun _ _ _ hu => (part_le (fun u u' hu => ev_le G hi r u u' hu) hu).bind fun _ _ _ hu => .ok hu
    · exact .bad
  | .sli a lo hi, r, _, _, hu => by unfold ev; exact (ev_le G a r _ _ hu).bind fun _ _ _ hu => (part_le (fun u u' hu => ev_le G lo r u u' hu) hu).bind fun _ _ _ hu => (part_le (fun u u' hu => ev_le G hi r u u' hu) hu).bind fun _ _ _ hu => .lift hu
  | .rev a, r, _, _, hu => by unfold ev; exact (ev_le G a r _ _ hu).bind fun _ _ _ hu => .lift hu
  | .call f es, r, _, _, hu => by unfold ev; exact (evs_le G es r _ _ hu).bind fun vs _ _ hu => (G.cl f vs _ _ hu).bind fun _ _ _ hu => .ok hu
  | .bi b es, r, _, _, hu => by unfold ev; exact (evs_le G es r _ _ hu).bind fun _ _ _ hu => .lift hu
  | .isi a ts, r, _, _, hu => by unfold ev; exact (ev_le G a r _ _ hu).bind fun _ _ _ hu => .ok hu
  | .met m o es, r, _, _, hu => by unfold ev; exact (ev_le G o r _ _ hu).bind fun _ _ _ hu => (RLe.lift hu).bind fun _ _ _ hu => (evs_le G es r _ _ hu).bind fun _ _ _ hu => .lift hu
  | .gix k e, r, _, _, hu => by unfold ev; rw [G.glb]; exact (ev_le G e r _ _ hu).bind fun _ _ _ hu => .lift hu
  | .comp p it c e, r, _, _, hu => by
    unfold ev
    refine RLe.bind (ev_le G it r _ _ hu) fun _ _ _ hu => ?_
    refine RLe.bind (RLe.lift hu) fun xs _ _ hu => RLe.quiet ?_
    refine RLe.bind (mapT_le (fun x _ _ hu => ?_) xs _ _ hu) fun _ _ _ hu => RLe.lift hu
    refine RLe.bind (RLe.lift hu) fun r _ _ hu => ?_
    refine RLe.bind (test_le (fun u u' hu => ev_le G c r u u' hu) hu) fun _ _ _ hu => ?_
    exact .ite (RLe.bind (ev_le G e r _ _ hu) fun _ _ _ hu => .ok hu) (.ok hu)
  | .comp2 p it q it2 c e, r, _, _, hu => by
    unfold ev
    refine RLe.bind (ev_le G it r _ _ hu) fun _ _ _ hu => ?_
    refine RLe.bind (RLe.lift hu) fun xs _ _ hu => RLe.quiet ?_
    refine RLe.bind (mapC_le (fun x _ _ hu => ?_) xs _ _ hu) fun _ _ _ hu => RLe.lift hu
    refine RLe.bind (RLe.lift hu) fun r _ _ hu => ?_
    refine RLe.bind (ev_le G it2 r _ _ hu) fun _ _ _ hu => ?_
    refine RLe.bind (RLe.lift hu) fun zs _ _ hu => ?_
    refine mapT_le (fun z _ _ hu => ?_) zs _ _ hu
    refine RLe.bind (RLe.lift hu) fun r _ _ hu => ?_
    refine RLe.bind (test_le (fun u u' hu => ev_le G c r u u' hu) hu) fun _ _ _ hu => ?_
    exact .ite (RLe.bind (ev_le G e r _ _ hu) fun _ _ _ hu => .ok hu) (.ok hu)
  | .dcom p it k v, r, _, _, hu => by
    unfold ev
    refine RLe.bind (ev_le G it r _ _ hu) fun _ _ _ hu => ?_
    refine RLe.bind (RLe.lift hu) fun xs _ _ hu => RLe.quiet ?_
    refine RLe.bind (mapT_le (fun x _ _ hu => ?_) xs _ _ hu) fun _ _ _ hu => RLe.lift hu
    refine RLe.bind (RLe.lift hu) fun r _ _ hu => ?_
    exact RLe.bind (ev_le G k r _ _ hu) fun _ _ _ hu => RLe.bind (ev_le G v r _ _ hu) fun _ _ _ hu => .ok hu
  | .lof a, r, _, _, hu => by unfold ev; exact (ev_le G a r _ _ hu).bind fun _ _ _ hu => .lift hu
  | .tof a, r, _, _, hu => by unfold ev; exact (ev_le G a r _ _ hu).bind fun _ _ _ hu => .lift hu
  | .rv2 a, r, _, _, hu => by unfold ev; exact (ev_le G a r _ _ hu).bind fun _ _ _ hu => .lift hu
  | .srt p a k, r, _, _, hu => by
    unfold ev
    refine RLe.bind (ev_le G a r _ _ hu) fun _ _ _ hu => ?_
    refine RLe.bind (RLe.lift hu) fun xs _ _ hu => RLe.quiet ?_
    refine RLe.bind (mapT_le (fun x _ _ hu => ?_) xs _ _ hu) fun _ _ _ hu => RLe.lift hu
    refine RLe.bind (RLe.lift hu) fun r _ _ hu => ?_
    exact RLe.bind (ev_le G k r _ _ hu) fun _ _ _ hu => .ok hu
  | .act i, r, _, _, hu => by
    unfold ev
    split
    · exact G.act _ _ _ _ hu
    · exact .bad
  | .isx i c, r, _, _, hu => by
    unfold ev
    split
    · exact .ok hu
    · exact .bad
  | .plc i, r, _, _, hu => by
    unfold ev
    split
    · exact .ok hu
    · exact .bad
  | .rng a b, r, _, _, hu => by unfold ev; exact (ev_le G a r _ _ hu).bind fun _ _ _ hu => (ev_le G b r _ _ hu).bind fun _ _ _ hu => .lift hu
  | .rn3 a b c, r, _, _, hu => by unfold ev; exact (ev_le G a r _ _ hu).bind fun _ _ _ hu => (ev_le G b r _ _ hu).bind fun _ _ _ hu => (ev_le G c r _ _ hu).bind fun _ _ _ hu => .lift hu
  | .enu a s, r, _, _, hu => by unfold ev; exact (ev_le G a r _ _ hu).bind fun _ _ _ hu => (part_le (fun u u' hu => ev_le G s r u u' hu) hu).bind fun _ _ _ hu => .lift hu
  | .zip a b, r, _, _, hu => by unfold ev; exact (ev_le G a r _ _ hu).bind fun _ _ _ hu => (ev_le G b r _ _ hu).bind fun _ _ _ hu => .lift hu
  | .vals a, r, _, _, hu => by unfold ev; exact (ev_le G a r _ _ hu).bind fun _ _ _ hu => .lift hu
  | .its a, r, _, _, hu => by unfold ev; exact (ev_le G a r _ _ hu).bind fun _ _ _ hu => .lift hu
  | .nil, _, _, _, _ => by unfold ev; exact .bad
  | .cons _ _, _, _, _, _ => by unfold ev; exact .bad
  | .tpv _, _, _, _, _ => by unfold ev; exact .bad
  | .scv _, _, _, _, _ => by unfold ev; exact .bad
  | .lam _, _, _, _, _ => by unfold ev; exact .bad
theorem evs_le (G : GLe T0 g g') : ∀ (e : Ex) (r : Env) (u u' : Tp), Rt T0 u u' → RLe T0 (evs g e r u) (evs g' e r u')
  | .nil, _, _, _, hu => by unfold evs; exact .ok hu
  | .cons (.tpv i) q, r, _, _, hu => by
    unfold evs
    split
    · exact (evs_le G q r _ _ hu).bind fun _ _ _ hu => .ok hu
    · exact .bad
  | .cons (.scv i) q, r, _, _, hu => by
    unfold evs
    split
    · exact (evs_le G q r _ _ hu).bind fun _ _ _ hu => .ok hu
    · exact .bad
  | .cons (.lam b) q, r, _, _, hu => by
    unfold evs
    exact (evs_le G q r _ _ hu).bind fun _ _ _ hu => .ok hu
  | .cons (.var x0) q, r, _, _, hu => by unfold evs; exact (ev_le G (.var x0) r _ _ hu).bind fun _ _ _ hu => (evs_le G q r _ _ hu).bind fun _ _ _ hu => .ok hu
  | .cons (.non) q, r, _, _, hu => by unfold evs; exact (ev_le G (.non) r _ _ hu).bind fun _ _ _ hu => (evs_le G q r _ _ hu).bind fun _ _ _ hu => .ok hu
  | .cons (.bl x0) q, r, _, _, hu => by unfold evs; exact (ev_le G (.bl x0) r _ _ hu).bind fun _ _ _ hu => (evs_le G q r _ _ hu).bind fun _ _ _ hu => .ok hu
  | .cons (.int x0) q, r, _, _, hu => by unfold evs; exact (ev_le G (.int x0) r _ _ hu).bind fun _ _ _ hu => (evs_le G q r _ _ hu).bind fun _ _ _ hu => .ok hu
  | .cons (.str x0) q, r, _, _, hu => by unfold evs; exact (ev_le G (.str x0) r _ _ hu).bind fun _ _ _ hu => (evs_le G q r _ _ hu).bind fun _ _ _ hu => .ok hu
  | .cons (.glb x0) q, r, _, _, hu => by unfold evs; exact (ev_le G (.glb x0) r _ _ hu).bind fun _ _ _ hu => (evs_le G q r _ _ hu).bind fun _ _ _ hu => .ok hu
  | .cons (.scs x0 x1 x2) q, r, _, _, hu => by unfold evs; exact (ev_le G (.scs x0 x1 x2) r _ _ hu).bind fun _ _ _ hu => (evs_le G q r _ _ hu).bind fun _ _ _ hu => .ok hu
  | .cons (.tup x0) q, r, _, _, hu => by unfold evs; exact (ev_le G (.tup x0) r _ _ hu).bind fun _ _ _ hu => (evs_le G q r _ _ hu).bind fun _ _ _ hu => .ok hu
  | .cons (.lst x0) q, r, _, _, hu => by unfold evs; exact (ev_le G (.lst x0) r _ _ hu).bind fun _ _ _ hu => (evs_le G q r _ _ hu).bind fun _ _ _ hu => .ok hu
  | .cons (.dic x0 x1) q, r, _, _, hu => by unfold evs; exact (ev_le G (.dic x0 x1) r _ _ hu).bind fun _ _ _ hu => (evs_le G q r _ _ hu).bind fun _ _ _ hu => .ok hu
  | .cons (.bin x0 x1 x2) q, r, _, _, hu => by unfold evs; exact (ev_le G (.bin x0 x1 x2) r _ _ hu).bind fun _ _ _ hu => (evs_le G q r _ _ hu).bind fun _ _ _ hu => .ok hu
  | .cons (.neg x0) q, r, _, _, hu => by unfold evs; exact (ev_le G (.neg x0) r _ _ hu).bind fun _ _ _ hu => (evs_le G q r _ _ hu).bind fun _ _ _ hu => .ok hu
  | .cons (.not x0) q, r, _, _, hu => by unfold evs; exact (ev_le G (.not x0) r _ _ hu).bind fun _ _ _ hu => (evs_le G q r _ _ hu).bind fun _ _ _ hu => .ok hu
  | .cons (.and x0 x1) q, r, _, _, hu => by unfold evs; exact (ev_le G (.and x0 x1) r _ _ hu).bind fun _ _ _ hu => (evs_le G q r _ _ hu).bind fun _ _ _ hu => .ok hu
  | .cons (.or x0 x1) q, r, _, _, hu => by unfold evs; exact (ev_le G (.or x0 x1) r _ _ hu).bind fun _ _ _ hu => (evs_le G q r _ _ hu).bind fun _ _ _ hu => .ok hu
  | .cons (.cmp x0 x1 x2) q, r, _, _, hu => by unfold evs; exact (ev_le G (.cmp x0 x1 x2) r _ _ hu).bind fun _ _ _ hu => (evs_le G q r _ _ hu).bind fun _ _ _ hu => .ok hu
  | .cons (.cm2 x0 x1 x2 x3 x4) q, r, _, _, hu => by unfold evs; exact (ev_le G (.cm2 x0 x1 x2 x3 x4) r _ _ hu).bind fun _ _ _ hu => (evs_le G q r _ _ hu).bind fun _ _ _ hu => .ok hu
  | .cons (.isn x0) q, r, _, _, hu => by unfold evs; exact (ev_le G (.isn x0) r _ _ hu).bind fun _ _ _ hu => (evs_le G q r _ _ hu).bind fun _ _ _ hu => .ok hu
  | .cons (.nsn x0) q, r, _, _, hu => by unfold evs; exact (ev_le G (.nsn x0) r _ _ hu).bind fun _ _ _ hu => (evs_le G q r _ _ hu).bind fun _ _ _ hu => .ok hu
  | .cons (.ite x0 x1 x2) q, r, _, _, hu => by unfold evs; exact (ev_le G (.ite x0 x1 x2) r _ _ hu).bind fun _ _ _ hu => (evs_le G q r _ _ hu).bind fun _ _ _ hu => .ok hu
  | .cons (.idx x0 x1) q, r, _, _, hu => by unfold evs; exact (ev_le G (.idx x0 x1) r _ _ hu).bind fun _ _ _ hu => (evs_le G q r _ _ hu).bind fun _ _ _ hu => .ok hu
  | .cons (.tix x0 x1) q, r, _, _, hu => by unfold evs; exact (ev_le G (.tix x0 x1) r _ _ hu).bind fun _ _ _ hu => (evs_le G q r _ _ hu).bind fun _ _ _ hu => .ok hu
  | .cons (.sli x0 x1 x2) q, r, _, _, hu => by unfold evs; exact (ev_le G (.sli x0 x1 x2) r _ _ hu).bind fun _ _ _ hu => (evs_le G q r _ _ hu).bind fun _ _ _ hu => .ok hu
  | .cons (.rev x0) q, r, _, _, hu => by unfold evs; exact (ev_le G (.rev x0) r _ _ hu).bind fun _ _ _ hu => (evs_le G q r _ _ hu).bind fun _ _ _ hu => .ok hu
  | .cons (.call x0 x1) q, r, _, _, hu => by unfold evs; exact (ev_le G (.call x0 x1) r _ _ hu).bind fun _ _ _ hu => (evs_le G q r _ _ hu).bind fun _ _ _ hu => .ok hu
  | .cons (.bi x0 x1) q, r, _, _, hu => by unfold evs; exact (ev_le G (.bi x0 x1) r _ _ hu).bind fun _ _ _ hu => (evs_le G q r _ _ hu).bind fun _ _ _ hu => .ok hu
  | .cons (.isi x0 x1) q, r, _, _, hu => by unfold evs; exact (ev_le G (.isi x0 x1) r _ _ hu).bind fun _ _ _ hu => (evs_le G q r _ _ hu).bind fun _ _ _ hu => .ok hu
  | .cons (.met x0 x1 x2) q, r, _, _, hu => by unfold evs; exact (ev_le G (.met x0 x1 x2) r _ _ hu).bind fun _ _ _ hu => (evs_le G q r _ _ hu).bind fun _ _ _ hu => .ok hu
  | .cons (.comp x0 x1 x2 x3) q, r, _, _, hu => by unfold evs; exact (ev_le G (.comp x0 x1 x2 x3) r _ _ hu).bind fun _ _ _ hu => (evs_le G q r _ _ hu).bind fun _ _ _ hu => .ok hu
  | .cons (.dcom x0 x1 x2 x3) q, r, _, _, hu => by unfold evs; exact (ev_le G (.dcom x0 x1 x2 x3) r _ _ hu).bind fun _ _ _ hu => (evs_le G q r _ _ hu).bind fun _ _ _ hu => .ok hu
  | .cons (.comp2 x0 x1 x2 x3 x4 x5) q, r, _, _, hu => by unfold evs; exact (ev_le G (.comp2 x0 x1 x2 x3 x4 x5) r _ _ hu).bind fun _ _ _ hu => (evs_le G q r _ _ hu).bind fun _ _ _ hu => .ok hu
  | .cons (.rng x0 x1) q, r, _, _, hu => by unfold evs; exact (ev_le G (.rng x0 x1) r _ _ hu).bind fun _ _ _ hu => (evs_le G q r _ _ hu).bind fun _ _ _ hu => .ok hu
  | .cons (.rn3 x0 x1 x2) q, r, _, _, hu => by unfold evs; exact (ev_le G (.rn3 x0 x1 x2) r _ _ hu).bind fun _ _ _ hu => (evs_le G q r _ _ hu).bind fun _ _ _ hu => .ok hu
  | .cons (.enu x0 x1) q, r, _, _, hu => by unfold evs; exact (ev_le G (.enu x0 x1) r _ _ hu).bind fun _ _ _ hu => (evs_le G q r _ _ hu).bind fun _ _ _ hu => .ok hu
  | .cons (.zip x0 x1) q, r, _, _, hu => by unfold evs; exact (ev_le G (.zip x0 x1) r _ _ hu).bind fun _ _ _ hu => (evs_le G q r _ _ hu).bind fun _ _ _ hu => .ok hu
  | .cons (.vals x0) q, r, _, _, hu => by unfold evs; exact (ev_le G (.vals x0) r _ _ hu).bind fun _ _ _ hu => (evs_le G q r _ _ hu).bind fun _ _ _ hu => .ok hu
  | .cons (.its x0) q, r, _, _, hu => by unfold evs; exact (ev_le G (.its x0) r _ _ hu).bind fun _ _ _ hu => (evs_le G q r _ _ hu).bind fun _ _ _ hu => .ok hu
  | .cons (.lof x0) q, r, _, _, hu => by unfold evs; exact (ev_le G (.lof x0) r _ _ hu).bind fun _ _ _ hu => (evs_le G q r _ _ hu).bind fun _ _ _ hu => .ok hu
  | .cons (.act x0) q, r, _, _, hu => by unfold evs; exact (ev_le G (.act x0) r _ _ hu).bind fun _ _ _ hu => (evs_le G q r _ _ hu).bind fun _ _ _ hu => .ok hu
  | .cons (.isx x0 x1) q, r, _, _, hu => by unfold evs; exact (ev_le G (.isx x0 x1) r _ _ hu).bind fun _ _ _ hu => (evs_le G q r _ _ hu).bind fun _ _ _ hu => .ok hu
  | .cons (.plc x0) q, r, _, _, hu => by unfold evs; exact (ev_le G (.plc x0) r _ _ hu).bind fun _ _ _ hu => (evs_le G q r _ _ hu).bind fun _ _ _ hu => .ok hu
  | .cons (.srt x0 x1 x2) q, r, _, _, hu => by unfold evs; exact (ev_le G (.srt x0 x1 x2) r _ _ hu).bind fun _ _ _ hu => (evs_le G q r _ _ hu).bind fun _ _ _ hu => .ok hu
  | .cons (.rv2 x0) q, r, _, _, hu => by unfold evs; exact (ev_le G (.rv2 x0) r _ _ hu).bind fun _ _ _ hu => (evs_le G q r _ _ hu).bind fun _ _ _ hu => .ok hu
  | .cons (.tof x0) q, r, _, _, hu => by unfold evs; exact (ev_le G (.tof x0) r _ _ hu).bind fun _ _ _ hu => (evs_le G q r _ _ hu).bind fun _ _ _ hu => .ok hu
  | .cons (.gix x0 x1) q, r, _, _, hu => by unfold evs; exact (ev_le G (.gix x0 x1) r _ _ hu).bind fun _ _ _ hu => (evs_le G q r _ _ hu).bind fun _ _ _ hu => .ok hu
  | .cons (.nil) q, r, _, _, hu => by unfold evs; exact (ev_le G (.nil) r _ _ hu).bind fun _ _ _ hu => (evs_le G q r _ _ hu).bind fun _ _ _ hu => .ok hu
  | .cons (.cons x0 x1) q, r, _, _, hu => by unfold evs; exact (ev_le G (.cons x0 x1) r _ _ hu).bind fun _ _ _ hu => (evs_le G q r _ _ hu).bind fun _ _ _ hu => .ok hu
  | .var _, _, _, _, _ => by unfold evs; exact .bad
  | .non, _, _, _, _ => by unfold evs; exact .bad
  | .bl _, _, _, _, _ => by unfold evs; exact .bad
  | .int _, _, _, _, _ => by unfold evs; exact .bad
  | .str _, _, _, _, _ => by unfold evs; exact .bad
  | .glb _, _, _, _, _ => by unfold evs; exact .bad
  | .scs _ _ _, _, _, _, _ => by unfold evs; exact .bad
  | .tup _, _, _, _, _ => by unfold evs; exact .bad
  | .lst _, _, _, _, _ => by unfold evs; exact .bad
  | .dic _ _, _, _, _, _ => by unfold evs; exact .bad
  | .bin _ _ _, _, _, _, _ => by unfold evs; exact .bad
  | .neg _, _, _, _, _ => by unfold evs; exact .bad
  | .not _, _, _, _, _ => by unfold evs; exact .bad
  | .and _ _, _, _, _, _ => by unfold evs; exact .bad
  | .or _ _, _, _, _, _ => by unfold evs; exact .bad
  | .cmp _ _ _, _, _, _, _ => by unfold evs; exact .bad
  | .cm2 _ _ _ _ _, _, _, _, _ => by unfold evs; exact .bad
  | .isn _, _, _, _, _ => by unfold evs; exact .bad
  | .nsn _, _, _, _, _ => by unfold evs; exact .bad
  | .ite _ _ _, _, _, _, _ => by unfold evs; exact .bad
  | .idx _ _, _, _, _, _ => by unfold evs; exact .bad
  | .tix _ _, _, _, _, _ => by unfold evs; exact .bad
  | .sli _ _ _, _, _, _, _ => by unfold evs; exact .bad
  | .rev _, _, _, _, _ => by unfold evs; exact .bad
  | .call _ _, _, _, _, _ => by unfold evs; exact .bad
  | .bi _ _, _, _, _, _ => by unfold evs; exact .bad
  | .isi _ _, _, _, _, _ => by unfold evs; exact .bad
  | .met _ _ _, _, _, _, _ => by unfold evs; exact .bad
  | .comp _ _ _ _, _, _, _, _ => by unfold evs; exact .bad
  | .dcom _ _ _ _, _, _, _, _ => by unfold evs; exact .bad
  | .comp2 _ _ _ _ _ _, _, _, _, _ => by unfold evs; exact .bad
  | .rng _ _, _, _, _, _ => by unfold evs; exact .bad
  | .rn3 _ _ _, _, _, _, _ => by unfold evs; exact .bad
  | .enu _ _, _, _, _, _ => by unfold evs; exact .bad
  | .zip _ _, _, _, _, _ => by unfold evs; exact .bad
  | .vals _, _, _, _, _ => by unfold evs; exact .bad
  | .its _, _, _, _, _ => by unfold evs; exact .bad
  | .lof _, _, _, _, _ => by unfold evs; exact .bad
  | .act _, _, _, _, _ => by unfold evs; exact .bad
  | .isx _ _, _, _, _, _ => by unfold evs; exact .bad
  | .plc _, _, _, _, _ => by unfold evs; exact .bad
  | .srt _ _ _, _, _, _, _ => by unfold evs; exact .bad
  | .rv2 _, _, _, _, _ => by unfold evs; exact .bad
  | .tof _, _, _, _, _ => by unfold evs; exact .bad
  | .gix _ _, _, _, _, _ => by unfold evs; exact .bad
  | .tpv _, _, _, _, _ => by unfold evs; exact .bad
  | .scv _, _, _, _, _ => by unfold evs; exact .bad
  | .lam _, _, _, _, _ => by unfold evs; exact .bad
end
theorem evR_le (G : GLe T0 g g') (e : Ex) (r : Env) (u u' : Tp) (hu : Rt T0 u u') : RLe T0 (evR g e r u) (evR g' e r u') := by
  induction e generalizing u u' with
  | call f es => unfold evR; exact (evs_le G es r _ _ hu).bind fun vs _ _ hu => G.cl f vs _ _ hu
  | ite c a b _ iha ihb =>
    unfold evR
    exact (ev_le G c r _ _ hu).bind fun _ _ _ hu => (RLe.lift hu).bind fun _ _ _ hu => .ite (iha _ _ hu) (ihb _ _ hu)
  | _ => unfold evR; exact (ev_le G _ r _ _ hu).bind fun _ _ _ hu => .ok hu
/-- a state, the tape apart -/
def SLe (T0 : Tp) (s s' : Stt) : Prop := s'.r = s.r ∧ s'.fl = s.fl ∧ Rt T0 s.t s'.t
def OLe (T0 : Tp) (o o' : Out) : Prop := match o with
  | .nx s => ∃ s', o' = .nx s' ∧ SLe T0 s s'
  | .rt x m t => ∃ t', o' = .rt x m t' ∧ Rt T0 t t'
  | .ex c p s => ∃ s', o' = .ex c p s' ∧ SLe T0 s s'
  | .bad => True
theorem OLe.bad {o : Out} : OLe T0 .bad o := True.intro
theorem OLe.nx {s s' : Stt} (h : SLe T0 s s') : OLe T0 (.nx s) (.nx s') := ⟨s', rfl, h⟩
theorem RLe.out {α : Type} {q q' : Res α} {s s' : Stt} {f f' : α → Tp → Out} (h : RLe T0 q q') (hs : SLe T0 s s') (k : ∀ a u u', Rt T0 u u' → OLe T0 (f a u) (f' a u')) : OLe T0 (q.out s f) (q'.out s' f') := by
  cases q with
  | ok a u => obtain ⟨u', rfl, hu⟩ := h; exact k a u u' hu
  | exc c p u => obtain ⟨u', rfl, hu⟩ := h; exact ⟨_, rfl, hs.1, hs.2.1, hu⟩
  | bad => exact True.intro
theorem OLe.ite {b : Bool} {q q' s s' : Out} (h : OLe T0 q q') (k : OLe T0 s s') : OLe T0 (if b = true then q else s) (if b = true then q' else s') := by
  cases b
  · exact k
  · exact h
theorem evFor_le {p : Pa} {f f' : Stt → Out} (h : ∀ s s', SLe T0 s s' → OLe T0 (f s) (f' s')) : ∀ (xs : List PyData) (s s' : Stt), SLe T0 s s' → OLe T0 (evFor p f xs s) (evFor p f' xs s')
  | [], s, s', hs => .nx hs
  | x :: xs, s, s', hs => by
    unfold evFor
    rw [hs.1, hs.2.1]
    cases asg p x s.r with
    | none => exact .bad
    | some r =>
      dsimp only
      have z := h ⟨r, fz s.fl (slotsP p), s.t⟩ ⟨r, fz s.fl (slotsP p), s'.t⟩ ⟨rfl, rfl, hs.2.2⟩
      cases e : f ⟨r, fz s.fl (slotsP p), s.t⟩ with
      | nx s1 =>
        rw [e] at z
        obtain ⟨s2, z1, z2⟩ := z
        rw [z1]
        exact evFor_le h xs s1 s2 z2
      | rt x m t =>
        rw [e] at z
        obtain ⟨t2, z1, z2⟩ := z
        rw [z1]
        exact ⟨t2, rfl, z2⟩
      | ex c p s1 =>
        rw [e] at z
        obtain ⟨s2, z1, z2⟩ := z
        rw [z1]
        exact ⟨s2, rfl, z2⟩
      | bad => exact .bad
theorem evWhl_le {c c' : Stt → Res Bool} {f f' : Stt → Out} (hc : ∀ s s', SLe T0 s s' → RLe T0 (c s) (c' s')) (h : ∀ s s', SLe T0 s s' → OLe T0 (f s) (f' s')) : ∀ (n m : Nat) (s s' : Stt), n ≤ m → SLe T0 s s' → OLe T0 (evWhl c f n s) (evWhl c' f' m s')
  | 0, _, _, _, _, _ => .bad
  | n + 1, 0, _, _, l, _ => by omega
  | n + 1, m + 1, s, s', l, hs => by
    unfold evWhl
    refine (hc s s' hs).out hs fun k u u' hu => ?_
    cases k with
    | false => exact .nx ⟨hs.1, hs.2.1, hu⟩
    | true =>
      rw [if_pos rfl, if_pos rfl]
      have z := h { s with t := u } { s' with t := u' } ⟨hs.1, hs.2.1, hu⟩
      cases e : f { s with t := u } with
      | nx s1 =>
        rw [e] at z
        obtain ⟨s2, z1, z2⟩ := z
        rw [z1]
        exact evWhl_le hc h n m s1 s2 (by omega) z2
      | rt x m t =>
        rw [e] at z
        obtain ⟨t2, z1, z2⟩ := z
        rw [z1]
        exact ⟨t2, rfl, z2⟩
      | ex c p s1 =>
        rw [e] at z
        obtain ⟨s2, z1, z2⟩ := z
        rw [z1]
        exact ⟨s2, rfl, z2⟩
      | bad => exact .bad
/-- no tape is made here -/
def noStp : St → Bool
  | .stp _ _ => false
  | .seq a b | .ife _ a b | .tryx a _ b => noStp a && noStp b
  | .forr _ _ b | .whl _ b | .tryl _ b | .trya _ _ b => noStp b
  | _ => true
theorem SLe.own {s s' : Stt} (h : SLe T0 s s') (i : Nat) : own s' i = own s i := by unfold Ev.own; rw [h.1, h.2.1]
theorem own_r {r : Env} {fl : List Bool} {t t' : Tp} (i : Nat) : own ⟨r, fl, t⟩ i = own ⟨r, fl, t'⟩ i := rfl
theorem SLe.setD {s s' : Stt} (h : SLe T0 s s') (i : Nat) (x : PyData) : setD s' i x = setD s i x := by unfold Ev.setD; rw [h.1]
theorem evS_le (G : GLe T0 g g') : ∀ (b : St) (s s' : Stt), noStp b = true → SLe T0 s s' → OLe T0 (evS g b s) (evS g' b s')
  | .nop, s, s', _, hs => by unfold evS; exact .nx hs
  | .seq a b, s, s', h, hs => by
    have h : (noStp a && noStp b) = true := h
    rw [Bool.and_eq_true] at h
    have z := evS_le G a s s' h.1 hs
    unfold evS
    cases e : evS g a s with
    | nx s1 =>
      rw [e] at z
      obtain ⟨s2, z1, z2⟩ := z
      rw [z1]
      exact evS_le G b s1 s2 h.2 z2
    | rt x m t =>
      rw [e] at z
      obtain ⟨t2, z1, z2⟩ := z
      rw [z1]
      exact ⟨t2, rfl, z2⟩
    | ex c p s1 =>
      rw [e] at z
      obtain ⟨s2, z1, z2⟩ := z
      rw [z1]
      exact ⟨s2, rfl, z2⟩
    | bad => exact .bad
  | .set p e, s, s', _, hs => by
    unfold evS
    rw [hs.1]
    refine (evR_le G e s.r _ _ hs.2.2).out hs fun x u u' hu => ?_
    split
    · exact .bad
    · rw [hs.2.1]; exact .nx ⟨rfl, rfl, hu⟩
  | .par i j a b, s, s', _, hs => by
    unfold evS
    rw [hs.1]
    refine (evR_le G a s.r _ _ hs.2.2).out hs fun x u u' hu => (evR_le G b s.r _ _ hu).out hs fun y u u' hu => ?_
    rw [hs.2.1]; exact .nx ⟨rfl, rfl, hu⟩
  | .aug i o e, s, s', _, hs => by
    unfold evS
    rw [hs.1]
    split
    · refine (ev_le G e s.r _ _ hs.2.2).out hs fun y u u' hu => ?_
      split
      · split
        · rw [hs.2.1, hs.setD]; exact .nx ⟨rfl, rfl, hu⟩
        · exact .bad
      · exact .bad
    · exact .bad
  | .app i e, s, s', _, hs => by
    unfold evS
    rw [hs.own, hs.1]
    split
    · refine (ev_le G e s.r _ _ hs.2.2).out hs fun y u u' hu => ?_
      rw [hs.2.1, own_r (t := s'.t) (t' := s.t)]
      split
      · split
        · rw [hs.setD]; exact .nx ⟨rfl, rfl, hu⟩
        · exact .bad
      · exact .bad
    · exact .bad
  | .ext i e, s, s', _, hs => by
    unfold evS
    rw [hs.own, hs.1]
    split
    · refine (ev_le G e s.r _ _ hs.2.2).out hs fun y u u' hu => ?_
      rw [hs.2.1, own_r (t := s'.t) (t' := s.t)]
      split
      · split
        · rw [hs.setD]; exact .nx ⟨rfl, rfl, hu⟩
        · exact .bad
      · exact .bad
    · exact .bad
  | .sto i k e, s, s', _, hs => by
    unfold evS
    rw [hs.1]
    refine (ev_le G e s.r _ _ hs.2.2).out hs fun x u u' hu => (ev_le G k s.r _ _ hu).out hs fun y u u' hu => ?_
    rw [hs.2.1, own_r (t := s'.t) (t' := s.t)]
    split
    · split
      · rw [hs.setD]; exact .nx ⟨rfl, rfl, hu⟩
      · exact .bad
    · exact .bad
  | .aui i k o e, s, s', _, hs => by
    unfold evS
    rw [hs.1]
    refine (ev_le G k s.r _ _ hs.2.2).out hs fun y u u' hu => ?_
    rw [hs.own]
    split
    · split
      · refine (ev_le G e s.r _ _ hu).out hs fun x u u' hu => ?_
        split
        · split
          · exact .bad
          · split
            · rw [hs.2.1, hs.setD]; exact .nx ⟨rfl, rfl, hu⟩
            · exact .bad
        · exact .bad
      · exact .bad
    · exact .bad
  | .tst i k e, s, s', _, hs => by
    unfold evS
    rw [hs.1]
    refine (ev_le G e s.r _ _ hs.2.2).out hs fun x u u' hu => ?_
    split
    · refine (ev_le G k s.r _ _ hu).out hs fun y u u' hu => ?_
      cases u with
      | none => exact .bad
      | some ts =>
        rw [hu.some]
        dsimp only
        split
        · exact .bad
        · split
          · exact .nx ⟨rfl, hs.2.1, rfl⟩
          · exact .bad
    · exact .bad
  | .upd i e, s, s', _, hs => by
    unfold evS
    rw [hs.1]
    refine (ev_le G e s.r _ _ hs.2.2).out hs fun x u u' hu => ?_
    rw [hs.2.1, own_r (t := s'.t) (t' := s.t)]
    split
    · rw [hs.setD]; exact .nx ⟨rfl, rfl, hu⟩
    · exact .bad
  | .apo i j e, s, s', _, hs => by
    unfold evS
    rw [hs.1]
    refine (ev_le G e s.r _ _ hs.2.2).out hs fun x u u' hu => ?_
    rw [hs.own, hs.own]
    split
    · split
      · split
        · split
          · split
            · exact .nx ⟨rfl, hs.2.1, hu⟩
            · exact .bad
          · exact .bad
        · exact .bad
      · exact .bad
    · exact .bad
  | .ret e, s, s', _, hs => by
    unfold evS
    rw [hs.1]
    refine (evR_le G e s.r _ _ hs.2.2).out hs fun x u u' hu => ?_
    rw [hs.2.1]
    exact ⟨_, rfl, hu⟩
  | .retn, s, s', _, hs => by unfold evS; exact ⟨_, rfl, hs.2.2⟩
  | .ife c a b, s, s', h, hs => by
    have h : (noStp a && noStp b) = true := h
    rw [Bool.and_eq_true] at h
    unfold evS
    rw [hs.1]
    refine RLe.out (RLe.bind (ev_le G c s.r _ _ hs.2.2) fun _ _ _ hu => RLe.lift hu) hs fun k u u' hu => ?_
    exact OLe.ite (evS_le G a ⟨s.r, s.fl, u⟩ ⟨s.r, s'.fl, u'⟩ h.1 ⟨rfl, hs.2.1, hu⟩) (evS_le G b ⟨s.r, s.fl, u⟩ ⟨s.r, s'.fl, u'⟩ h.2 ⟨rfl, hs.2.1, hu⟩)
  | .forr p it b, s, s', h, hs => by
    unfold evS
    rw [hs.1]
    refine RLe.out (RLe.bind (f := fun x t => lift (walkD x) t) (f' := fun x t => lift (walkD x) t) (ev_le G it s.r _ _ hs.2.2) fun _ _ _ hu => RLe.lift hu) hs fun xs u u' hu => ?_
    rw [hs.2.1]
    exact evFor_le (fun s s' hs => evS_le G b s s' h hs) xs _ _ ⟨rfl, rfl, hu⟩
  | .whl c b, s, s', h, hs => by
    unfold evS
    exact evWhl_le (fun s s' hs => by rw [hs.1]; exact RLe.bind (f := fun x t => lift (truthD x) t) (f' := fun x t => lift (truthD x) t) (ev_le G c s.r _ _ hs.2.2) fun _ _ _ hu => RLe.lift hu) (fun s s' hs => evS_le G b s s' h hs) _ _ _ _ G.wf hs
  | .rai c es, s, s', _, hs => by
    unfold evS
    rw [hs.1]
    refine (evs_le G es s.r _ _ hs.2.2).out hs fun vs u u' hu => ?_
    split
    · exact ⟨_, rfl, rfl, hs.2.1, hu⟩
    · exact .bad
  | .tryx b i h, s, s', hh, hs => by
    have hh : (noStp b && noStp h) = true := hh
    rw [Bool.and_eq_true] at hh
    have z := evS_le G b s s' hh.1 hs
    unfold evS
    cases e : evS g b s with
    | nx s1 =>
      rw [e] at z
      obtain ⟨s2, z1, z2⟩ := z
      rw [z1]
      exact .nx z2
    | rt x m t =>
      rw [e] at z
      obtain ⟨t2, z1, z2⟩ := z
      rw [z1]
      exact ⟨t2, rfl, z2⟩
    | ex c p s1 =>
      rw [e] at z
      obtain ⟨s2, z1, z2⟩ := z
      rw [z1]
      dsimp only
      have y := evS_le G h { s1 with r := s1.r.set i (some (.exc c p)), fl := s1.fl.set i false } { s2 with r := s2.r.set i (some (.exc c p)), fl := s2.fl.set i false } hh.2 ⟨by rw [z2.1], by rw [z2.2.1], z2.2.2⟩
      cases e2 : evS g h { s1 with r := s1.r.set i (some (.exc c p)), fl := s1.fl.set i false } with
      | nx s3 =>
        rw [e2] at y
        obtain ⟨s4, y1, y2⟩ := y
        rw [y1]
        exact .nx ⟨by rw [y2.1], by rw [y2.2.1], y2.2.2⟩
      | rt x m t =>
        rw [e2] at y
        obtain ⟨t2, y1, y2⟩ := y
        rw [y1]
        exact ⟨t2, rfl, y2⟩
      | ex c p s3 =>
        rw [e2] at y
        obtain ⟨s4, y1, y2⟩ := y
        rw [y1]
        exact ⟨s4, rfl, y2⟩
      | bad => exact .bad
    | bad => exact .bad
  | .tryl i h, s, s', hh, hs => by
    have z := ev_le G (.act 0) s.r _ _ hs.2.2
    unfold evS
    rw [hs.1]
    cases e : ev g (.act 0) s.r s.t with
    | ok a u =>
      rw [e] at z
      obtain ⟨u2, z1, z2⟩ := z
      rw [z1]
      exact .nx ⟨rfl, hs.2.1, z2⟩
    | exc c p u =>
      rw [e] at z
      obtain ⟨u2, z1, z2⟩ := z
      rw [z1]
      dsimp only
      have y := evS_le G h ⟨(List.replicate s.r.length none).set i (some (.exc c p)), List.replicate s.r.length false, u⟩ ⟨(List.replicate s.r.length none).set i (some (.exc c p)), List.replicate s.r.length false, u2⟩ hh ⟨rfl, rfl, z2⟩
      cases e2 : evS g h ⟨(List.replicate s.r.length none).set i (some (.exc c p)), List.replicate s.r.length false, u⟩ with
      | nx s3 =>
        rw [e2] at y
        obtain ⟨s4, y1, y2⟩ := y
        rw [y1]
        exact .nx ⟨by dsimp only; rw [y2.1], by dsimp only; rw [y2.2.1], y2.2.2⟩
      | _ => exact .bad
    | bad => exact .bad
  | .trya j0 i h, s, s', hh, hs => by
    have z := ev_le G (.act 0) s.r _ _ hs.2.2
    unfold evS
    rw [hs.1]
    cases e : ev g (.act 0) s.r s.t with
    | ok a u =>
      rw [e] at z
      obtain ⟨u2, z1, z2⟩ := z
      rw [z1]
      rw [hs.2.1]
      exact .nx ⟨rfl, rfl, z2⟩
    | exc c p u =>
      rw [e] at z
      obtain ⟨u2, z1, z2⟩ := z
      rw [z1]
      dsimp only
      have y := evS_le G h ⟨(List.replicate s.r.length none).set i (some (.exc c p)), List.replicate s.r.length false, u⟩ ⟨(List.replicate s.r.length none).set i (some (.exc c p)), List.replicate s.r.length false, u2⟩ hh ⟨rfl, rfl, z2⟩
      cases e2 : evS g h ⟨(List.replicate s.r.length none).set i (some (.exc c p)), List.replicate s.r.length false, u⟩ with
      | nx s3 =>
        rw [e2] at y
        obtain ⟨s4, y1, y2⟩ := y
        rw [y1]
        exact .nx ⟨by dsimp only; rw [y2.1], by dsimp only; rw [y2.2.1], y2.2.2⟩
      | _ => exact .bad
    | bad => exact .bad
  | .exp e, s, s', _, hs => by
    unfold evS
    rw [hs.1]
    exact (ev_le G e s.r _ _ hs.2.2).out hs fun _ u u' hu => .nx ⟨rfl, hs.2.1, hu⟩
  | .stp _ _, _, _, h, _ => by cases h
end
/-- the defs make no tape -/
def calm (fns : List Fn) : Bool := fns.all fun F => noStp F.body
theorem cal_le {T0 : Tp} {gl : Nat → Option PyData} {fns : List Fn} (hc : calm fns = true) {wf wf' : Nat} (hw : wf ≤ wf') : ∀ (n m : Nat), n ≤ m → GLe T0 (cal gl fns wf n) (cal gl fns wf' m)
  | 0, m, _ => ⟨by cases m <;> rfl, by cases m <;> exact hw, fun _ _ _ _ _ => True.intro, fun _ _ _ _ _ => True.intro⟩
  | n + 1, 0, l => by omega
  | n + 1, m + 1, l => by
    have G := cal_le (T0 := T0) (gl := gl) hc hw n m (by omega)
    refine ⟨rfl, hw, fun f vs u u' hu => ?_, fun b r u u' hu => ev_le G b r u u' hu⟩
    show RLe T0 (match fns[f]? with
      | some F => _
      | none => _) (match fns[f]? with
      | some F => _
      | none => _)
    cases e : fns[f]? with
    | none => exact .bad
    | some F =>
      dsimp only
      split
      · have hF : noStp F.body = true := List.all_eq_true.mp hc F (List.mem_of_getElem? e)
        have z := evS_le G F.body ⟨vs.map some ++ List.replicate (F.sl - F.ar) none, List.replicate F.sl false, u⟩ ⟨vs.map some ++ List.replicate (F.sl - F.ar) none, List.replicate F.sl false, u'⟩ hF ⟨rfl, rfl, hu⟩
        cases e2 : evS (cal gl fns wf n) F.body ⟨vs.map some ++ List.replicate (F.sl - F.ar) none, List.replicate F.sl false, u⟩ with
        | nx s1 =>
          rw [e2] at z
          obtain ⟨s2, z1, z2⟩ := z
          rw [z1]
          exact ⟨_, rfl, z2.2.2⟩
        | rt x m t =>
          rw [e2] at z
          obtain ⟨t2, z1, z2⟩ := z
          rw [z1]
          exact ⟨t2, rfl, z2⟩
        | ex c p s1 =>
          rw [e2] at z
          obtain ⟨s2, z1, z2⟩ := z
          rw [z1]
          exact ⟨_, rfl, z2.2.2⟩
        | bad => exact .bad
      · exact .bad
/-- what is reckoned without a tape is reckoned with any, at every higher level -/
theorem cl_any {gl : Nat → Option PyData} {fns : List Fn} (hc : calm fns = true) {wf wf' : Nat} (hw : wf ≤ wf') {n m : Nat} (h : n ≤ m) {f : Nat} {vs : List Vl} {x : PyData × Bool} (e : (cal gl fns wf n).cl f vs none = .ok x none) (t : Tp) : (cal gl fns wf' m).cl f vs t = .ok x t := by
  have z := (cal_le (T0 := t) (gl := gl) hc hw n m h).cl f vs none t rfl
  rw [e] at z
  obtain ⟨u, z1, z2⟩ := z
  rw [z1]
  have z2 : u = t := z2
  rw [z2]
theorem cl_up {gl : Nat → Option PyData} {fns : List Fn} (hc : calm fns = true) {wf wf' : Nat} (hw : wf ≤ wf') {n m : Nat} (h : n ≤ m) {f : Nat} {vs : List Vl} {x : PyData × Bool} {t t' : Tp} (e : (cal gl fns wf n).cl f vs t = .ok x t') : (cal gl fns wf' m).cl f vs t = .ok x t' := by
  have z := (cal_le (T0 := none) (gl := gl) hc hw n m h).cl f vs t t (by cases t <;> rfl)
  rw [e] at z
  obtain ⟨u, z1, z2⟩ := z
  rw [z1]
  have z2 : u = t'.or none := z2
  cases t' <;> rw [z2] <;> rfl
/-- .. an error too -/
theorem cx_any {gl : Nat → Option PyData} {fns : List Fn} (hc : calm fns = true) {wf wf' : Nat} (hw : wf ≤ wf') {n m : Nat} (h : n ≤ m) {f : Nat} {vs : List Vl} {c : Nat} {p : List PyData} (e : (cal gl fns wf n).cl f vs none = .exc c p none) (t : Tp) : (cal gl fns wf' m).cl f vs t = .exc c p t := by
  have z := (cal_le (T0 := t) (gl := gl) hc hw n m h).cl f vs none t rfl
  rw [e] at z
  obtain ⟨u, z1, z2⟩ := z
  rw [z1]
  have z2 : u = t := z2
  rw [z2]
end Ev

set_option Elab.async false
set_option autoImplicit false
set_option linter.all false
set_option maxRecDepth 100000
set_option maxHeartbeats 2000000
/-! What is wanted of the evaluator's answer. -/
namespace Ev
open PySem L2
def W {α : Type} (q : Res α) (Q : α → Tp → Prop) : Prop := match q with
  | .ok a t => Q a t
  | _ => False
section
variable {α β : Type} {Q : α → Tp → Prop} {t : Tp}
theorem W_ok {a : α} : W (.ok a t) Q = Q a t := rfl
theorem W_bind {q : Res β} {f : β → Tp → Res α} : W (q.bind f) Q = W q fun a t => W (f a t) Q := by cases q <;> rfl
theorem W_some {a : α} : W (lift (some a) t) Q = Q a t := rfl
theorem W_none : W (lift none t) Q = False := rfl
theorem W_lift {o : Option α} : W (lift o t) Q = ∃ a, o = some a ∧ Q a t := by
  cases o with
  | none => exact propext ⟨fun h => h.elim, fun ⟨a, h, _⟩ => nomatch h⟩
  | some a => exact propext ⟨fun h => ⟨a, rfl, h⟩, fun ⟨b, h, k⟩ => by cases h; exact k⟩
theorem W_if {c : Prop} [Decidable c] {p q : Res α} : W (if c then p else q) Q = if c then W p Q else W q Q := by split <;> rfl
theorem W_quiet {q : Res α} : W q.quiet Q = W q Q := by cases q <;> rfl
theorem W.elim {q : Res α} (h : W q Q) : ∃ a t, q = .ok a t ∧ Q a t := by
  cases q with
  | ok a t => exact ⟨a, t, rfl, h⟩
  | _ => exact False.elim h
theorem W.of {q : Res α} {a : α} (e : q = .ok a t) (h : Q a t) : W q Q := by rw [e]; exact h
theorem W.mono {q : Res α} {Q' : α → Tp → Prop} (h : W q Q) (k : ∀ a t, Q a t → Q' a t) : W q Q' := by
  cases q with
  | ok a t => exact k a t h
  | _ => exact False.elim h
end
def WO (o : Out) (N : Stt → Prop) (R : PyData → Bool → Tp → Prop) : Prop := match o with
  | .nx s => N s
  | .rt x m t => R x m t
  | _ => False
theorem WO.mono {o : Out} {N N' : Stt → Prop} {R R' : PyData → Bool → Tp → Prop} (h : WO o N R) (k : ∀ s, N s → N' s) (l : ∀ x m t, R x m t → R' x m t) : WO o N' R' := by
  cases o with
  | nx s => exact k s h
  | rt x m t => exact l x m t h
  | _ => exact False.elim h
section
variable {N : Stt → Prop} {R : PyData → Bool → Tp → Prop} {g : Gm} {s : Stt}
theorem WO_out {α : Type} {q : Res α} {f : α → Tp → Out} : WO (q.out s f) N R = W q fun a t => WO (f a t) N R := by cases q <;> rfl
theorem WO_if {c : Prop} [Decidable c] {p q : Out} : WO (if c then p else q) N R = if c then WO p N R else WO q N R := by split <;> rfl
theorem WO_nx {u : Stt} : WO (.nx u) N R = N u := rfl
theorem WO_rt {x : PyData} {m : Bool} {t : Tp} : WO (.rt x m t) N R = R x m t := rfl
theorem WO_nop : WO (evS g .nop s) N R = N s := rfl
/-- what follows, left closed -/
@[irreducible] def Wn (g : Gm) (b : St) (s : Stt) (N : Stt → Prop) (R : PyData → Bool → Tp → Prop) : Prop := WO (evS g b s) N R
theorem Wn_mk {b : St} (h : WO (evS g b s) N R) : Wn g b s N R := by unfold Wn; exact h
theorem WO_seq {a b : St} : WO (evS g (.seq a b) s) N R = WO (evS g a s) (fun s => Wn g b s N R) R := by
  have e : (fun s => Wn g b s N R) = fun s => WO (evS g b s) N R := by funext s; unfold Wn; rfl
  rw [e]
  show WO (match evS g a s with | .nx s => evS g b s | o => o) N R = _
  cases evS g a s <;> rfl
theorem WO_set {p : Pa} {e : Ex} : WO (evS g (.set p e) s) N R = W (evR g e s.r s.t) fun x t => match asg p x.1 s.r with
    | none => False
    | some r => N ⟨r, match p with
      | .nm i => (fzx x.1 e s.fl).set i (x.2 && isMut x.1)
      | p => fz (fzx x.1 e s.fl) (slotsP p), t⟩ := by
  show WO ((evR g e s.r s.t).out s _) N R = _
  rw [WO_out]
  congr
  funext x t
  cases asg p x.1 s.r <;> rfl
theorem WO_ret {e : Ex} : WO (evS g (.ret e) s) N R = W (evR g e s.r s.t) fun x t => R x.1 (x.2 || ownV s.fl e) t := WO_out
theorem WO_ife {c : Ex} {a b : St} : WO (evS g (.ife c a b) s) N R = W (ev g c s.r s.t) fun x t => W (lift (truthD x) t) fun k t => if k = true then WO (evS g a { s with t := t }) N R else WO (evS g b { s with t := t }) N R := by
  show WO (((ev g c s.r s.t).bind fun x t => lift (truthD x) t).out s _) N R = _
  rw [WO_out, W_bind]
  congr
  funext x t
  congr
  funext k t
  rw [WO_if]
theorem WO_exp {e : Ex} : WO (evS g (.exp e) s) N R = W (ev g e s.r s.t) fun _ t => N { s with t := t } := WO_out
theorem WO_forr {p : Pa} {it : Ex} {b : St} : WO (evS g (.forr p it b) s) N R = W (ev g it s.r s.t) fun x t => W (lift (walkD x) t) fun xs t => WO (evFor p (evS g b) xs ⟨s.r, fz s.fl (retE it), t⟩) N R := by
  show WO (((ev g it s.r s.t).bind fun x t => lift (walkD x) t).out s _) N R = _
  rw [WO_out, W_bind]
theorem WO_tst {i : Nat} {k e : Ex} (h : getV s.r i = some .tp) : WO (evS g (.tst i k e) s) N R = W (ev g e s.r s.t) fun x t => W (ev g k s.r t) fun y t => match t with
      | some ts => if isCont x = true then False else match stoD (.list ts) y x with
        | some (.list ts) => N { s with t := some ts }
        | _ => False
      | none => False := by
  unfold evS
  rw [WO_out, h]
  congr
  funext x t
  dsimp only
  rw [WO_out]
  congr
  funext y t
  cases t with
  | none => rfl
  | some ts =>
    dsimp only
    split
    · rfl
    · rcases stoD (.list ts) y x with _ | z
      · rfl
      · cases z <;> rfl
theorem WO_app {i : Nat} {e : Ex} : WO (evS g (.app i e) s) N R = match own s i with
    | some (.list _) => W (ev g e s.r s.t) fun x t => match own { s with fl := fzx x e s.fl } i with
      | some (.list xs) => if xs.length < line then N ⟨setD s i (.list (xs ++ [x])), fzx x e s.fl, t⟩ else False
      | _ => False
    | _ => False := by
  unfold evS
  rcases own s i with _ | z
  · rfl
  · cases z with
    | list ys =>
      show WO ((ev g e s.r s.t).out s _) N R = _
      rw [WO_out]
      congr
      funext x t
      rcases own { s with fl := fzx x e s.fl } i with _ | z
      · rfl
      · cases z with
        | list xs =>
          dsimp only
          rw [WO_if]
          rfl
        | _ => rfl
    | _ => rfl
theorem WO_tryl {i : Nat} {h : St} : WO (evS g (.tryl i h) s) N R = match ev g (.act 0) s.r s.t with
    | .ok _ t => N { s with t := t }
    | .exc c p t => (match evS g h ⟨(List.replicate s.r.length none).set i (some (.exc c p)), List.replicate s.r.length false, t⟩ with
      | .nx s' => N ⟨(unexc s'.r).set i none, s'.fl.set i false, s'.t⟩
      | _ => False)
    | .bad => False := by
  show WO (match ev g (.act 0) s.r s.t with
    | .ok _ t => .nx { s with t := t }
    | .exc c p t => (match evS g h ⟨(List.replicate s.r.length none).set i (some (.exc c p)), List.replicate s.r.length false, t⟩ with
      | .nx s' => .nx ⟨(unexc s'.r).set i none, s'.fl.set i false, s'.t⟩
      | _ => .bad)
    | .bad => .bad) N R = _
  cases ev g (.act 0) s.r s.t with
  | ok a t => rfl
  | bad => rfl
  | exc c p t =>
    dsimp only
    generalize evS g h ⟨(List.replicate s.r.length none).set i (some (.exc c p)), List.replicate s.r.length false, t⟩ = o
    cases o <;> rfl
theorem WO_trya {j0 i : Nat} {h : St} : WO (evS g (.trya j0 i h) s) N R = match ev g (.act 0) s.r s.t with
    | .ok y t => N ⟨s.r.set j0 (some (.d y)), (fzx y (.act 0) s.fl).set j0 false, t⟩
    | .exc c p t => (match evS g h ⟨(List.replicate s.r.length none).set i (some (.exc c p)), List.replicate s.r.length false, t⟩ with
      | .nx s' => N ⟨(unexc s'.r).set i none, s'.fl.set i false, s'.t⟩
      | _ => False)
    | .bad => False := by
  show WO (match ev g (.act 0) s.r s.t with
    | .ok y t => .nx ⟨s.r.set j0 (some (.d y)), (fzx y (.act 0) s.fl).set j0 false, t⟩
    | .exc c p t => (match evS g h ⟨(List.replicate s.r.length none).set i (some (.exc c p)), List.replicate s.r.length false, t⟩ with
      | .nx s' => .nx ⟨(unexc s'.r).set i none, s'.fl.set i false, s'.t⟩
      | _ => .bad)
    | .bad => .bad) N R = _
  cases ev g (.act 0) s.r s.t with
  | ok a t => rfl
  | bad => rfl
  | exc c p t =>
    dsimp only
    generalize evS g h ⟨(List.replicate s.r.length none).set i (some (.exc c p)), List.replicate s.r.length false, t⟩ = o
    cases o <;> rfl
theorem WO_aug {i : Nat} {o : BOp} {e : Ex} : WO (evS g (.aug i o e) s) N R = match getV s.r i with
    | some (.d (.int a)) => W (ev g e s.r s.t) fun y t => match y with
      | .int b => (match augD o a b with
        | some z => N ⟨setD s i (.int z), (fzx (.int z) e s.fl).set i false, t⟩
        | none => False)
      | _ => False
    | _ => False := by
  unfold evS
  rcases getV s.r i with _ | v
  · rfl
  · cases v with
    | d x =>
      cases x with
      | int a =>
        show WO ((ev g e s.r s.t).out s _) N R = _
        rw [WO_out]
        congr
        funext y t
        cases y with
        | int b =>
          dsimp only
          cases augD o a b <;> rfl
        | _ => rfl
      | _ => rfl
    | _ => rfl
theorem WO_stp {i : Nat} {e : Ex} : WO (evS g (.stp i e) s) N R = match s.t with
    | none => W (evR g e s.r s.t) fun x t => match x with
      | (.list ts, true) => N ⟨s.r.set i (some .tp), fz s.fl (i :: retE e), some ts⟩
      | _ => False
    | some _ => False := by
  unfold evS
  cases s.t with
  | some u => rfl
  | none =>
    dsimp only
    rw [WO_out]
    congr
    funext x t
    obtain ⟨x, b⟩ := x
    cases x <;> cases b <;> rfl
theorem WO_retn : WO (evS g .retn s) N R = R .none false s.t := rfl
theorem WO_par {i j : Nat} {a b : Ex} : WO (evS g (.par i j a b) s) N R = W (evR g a s.r s.t) fun x t => W (evR g b s.r t) fun y t => N ⟨(s.r.set i (some (.d x.1))).set j (some (.d y.1)), ((fzx y.1 b (fzx x.1 a s.fl)).set i (x.2 && isMut x.1)).set j (y.2 && isMut y.1), t⟩ := by
  show WO ((evR g a s.r s.t).out s _) N R = _
  rw [WO_out]
  congr
  funext x t
  rw [WO_out]
  rfl
/-- a loop, by what holds ahead of each turn -/
theorem WO_for {p : Pa} {f : Stt → Out} (I : List PyData → Stt → Prop) (step : ∀ x xs s, I (x :: xs) s → ∃ r, asg p x s.r = some r ∧ WO (f ⟨r, fz s.fl (slotsP p), s.t⟩) (I xs) R) (done : ∀ s, I [] s → N s) : ∀ (xs : List PyData) (s : Stt), I xs s → WO (evFor p f xs s) N R
  | [], s, h => done s h
  | x :: xs, s, h => by
    obtain ⟨r, e, z⟩ := step x xs s h
    unfold evFor
    rw [e]
    dsimp only
    cases q : f ⟨r, fz s.fl (slotsP p), s.t⟩ with
    | nx s2 => rw [q] at z; exact WO_for I step done xs s2 z
    | rt x m t => rw [q] at z; exact z
    | ex c p s => rw [q] at z; exact z.elim
    | bad => rw [q] at z; exact z.elim
end
/-- item by item, where nothing of the tape is asked -/
theorem mapT_map {f : PyData → Tp → Res (Option PyData)} {h : PyData → PyData} : ∀ {xs : List PyData} {t : Tp}, (∀ x ∈ xs, f x t = .ok (some (h x)) t) → mapT f xs t = .ok (xs.map h) t
  | [], _, _ => rfl
  | x :: r, t, k => by
    unfold mapT
    rw [k x List.mem_cons_self]
    show ((mapT f r t).bind fun ys t => _) = _
    rw [mapT_map fun y m => k y (List.mem_cons_of_mem _ m)]
    rfl
theorem mapT_filter {f : PyData → Tp → Res (Option PyData)} {h : PyData → Option PyData} : ∀ {xs : List PyData} {t : Tp}, (∀ x ∈ xs, f x t = .ok (h x) t) → mapT f xs t = .ok (xs.filterMap h) t
  | [], _, _ => rfl
  | x :: r, t, k => by
    unfold mapT
    rw [k x List.mem_cons_self]
    show ((mapT f r t).bind fun ys t => _) = _
    rw [mapT_filter fun y m => k y (List.mem_cons_of_mem _ m), List.filterMap_cons]
    show Res.ok (match h x with | some z => z :: _ | none => _) t = _
    cases h x <;> rfl
/-! ### expressions -/
theorem ev_var {g : Gm} {i : Nat} {r : Ev.Env} {t : Tp} : ev g (.var i) r t = match getV r i with
    | some (.d x) => .ok x t
    | _ => .bad := rfl
theorem ev_non {g : Gm}  {r : Ev.Env} {t : Tp} : ev g (.non) r t = .ok .none t := rfl
theorem ev_bl {g : Gm} {b : Bool} {r : Ev.Env} {t : Tp} : ev g (.bl b) r t = .ok (.bool b) t := rfl
theorem ev_int {g : Gm} {i : Int} {r : Ev.Env} {t : Tp} : ev g (.int i) r t = .ok (.int i) t := rfl
theorem ev_str {g : Gm} {s : Str} {r : Ev.Env} {t : Tp} : ev g (.str s) r t = .ok (.str s) t := rfl
theorem ev_glb {g : Gm} {k : Nat} {r : Ev.Env} {t : Tp} : ev g (.glb k) r t = lift (g.glb k) t := rfl
theorem ev_tup {g : Gm} {es : Ex} {r : Ev.Env} {t : Tp} : ev g (.tup es) r t = (evs g es r t).bind fun vs t => lift ((allD vs).map .tuple) t := rfl
theorem ev_lst {g : Gm} {es : Ex} {r : Ev.Env} {t : Tp} : ev g (.lst es) r t = (evs g es r t).bind fun vs t => lift ((allD vs).map .list) t := rfl
theorem ev_dic {g : Gm} {ks : Ex} {vs : Ex} {r : Ev.Env} {t : Tp} : ev g (.dic ks vs) r t = (evs g ks r t).bind fun as t => (evs g vs r t).bind fun bs t => lift ((allD as).bind fun as => (allD bs).bind fun bs => (putAll [] as bs).map .dict) t := rfl
theorem ev_bin {g : Gm} {o : BOp} {a : Ex} {b : Ex} {r : Ev.Env} {t : Tp} : ev g (.bin o a b) r t = (ev g a r t).bind fun x t => (ev g b r t).bind fun y t => lift (binD o x y) t := rfl
theorem ev_neg {g : Gm} {a : Ex} {r : Ev.Env} {t : Tp} : ev g (.neg a) r t = (ev g a r t).bind fun x t => lift ((asInt x).map fun i => .int (-i)) t := rfl
theorem ev_not {g : Gm} {a : Ex} {r : Ev.Env} {t : Tp} : ev g (.not a) r t = (ev g a r t).bind fun x t => lift ((truthD x).map fun b => .bool (!b)) t := rfl
theorem ev_and {g : Gm} {a : Ex} {b : Ex} {r : Ev.Env} {t : Tp} : ev g (.and a b) r t = (ev g a r t).bind fun x t => (lift (truthD x) t).bind fun c t => if c = true then ev g b r t else .ok x t := rfl
theorem ev_or {g : Gm} {a : Ex} {b : Ex} {r : Ev.Env} {t : Tp} : ev g (.or a b) r t = (ev g a r t).bind fun x t => (lift (truthD x) t).bind fun c t => if c = true then .ok x t else ev g b r t := rfl
theorem ev_cmp {g : Gm} {o : COp} {a : Ex} {b : Ex} {r : Ev.Env} {t : Tp} : ev g (.cmp o a b) r t = (ev g a r t).bind fun x t => (ev g b r t).bind fun y t => lift ((cmpD o x y).map .bool) t := rfl
theorem ev_cm2 {g : Gm} {o : COp} {p : COp} {a : Ex} {b : Ex} {c : Ex} {r : Ev.Env} {t : Tp} : ev g (.cm2 o p a b c) r t = (ev g a r t).bind fun x t => (ev g b r t).bind fun y t => (lift (cmpD o x y) t).bind fun k t =>
      if k = true then (ev g c r t).bind fun z t => lift ((cmpD p y z).map .bool) t else .ok (.bool false) t := rfl
theorem ev_isn {g : Gm} {a : Ex} {r : Ev.Env} {t : Tp} : ev g (.isn a) r t = (ev g a r t).bind fun x t => .ok (.bool (!notNone x)) t := rfl
theorem ev_nsn {g : Gm} {a : Ex} {r : Ev.Env} {t : Tp} : ev g (.nsn a) r t = (ev g a r t).bind fun x t => .ok (.bool (notNone x)) t := rfl
theorem ev_ite {g : Gm} {c : Ex} {a : Ex} {b : Ex} {r : Ev.Env} {t : Tp} : ev g (.ite c a b) r t = (ev g c r t).bind fun x t => (lift (truthD x) t).bind fun k t => if k = true then ev g a r t else ev g b r t := rfl
theorem ev_idx {g : Gm} {a : Ex} {i : Ex} {r : Ev.Env} {t : Tp} : ev g (.idx a i) r t = (ev g a r t).bind fun x t => (ev g i r t).bind fun y t => lift (idxD x y) t := rfl
theorem ev_tix {g : Gm} {i : Nat} {k : Ex} {r : Ev.Env} {t : Tp} : ev g (.tix i k) r t = match getV r i with
    | some .tp => (ev g k r t).bind fun y t => match t with
      | some ts => lift (idxD (.list ts) y) (some ts)
      | none => .bad
    | _ => .bad := rfl
theorem ev_scs {g : Gm} {i : Nat} {lo : Ex} {hi : Ex} {r : Ev.Env} {t : Tp} : ev g (.scs i lo hi) r t = match getV r i with
    | some (.scr ns) => (part (isNil lo) (ev g lo r) t).bind fun l t => (part (isNil hi) (ev g hi r) t).bind fun h t => .ok (.list (cut (ns.map .int) l h)) t
    | _ => .bad := rfl
theorem ev_sli {g : Gm} {a : Ex} {lo : Ex} {hi : Ex} {r : Ev.Env} {t : Tp} : ev g (.sli a lo hi) r t = (ev g a r t).bind fun x t => (part (isNil lo) (ev g lo r) t).bind fun l t => (part (isNil hi) (ev g hi r) t).bind fun h t => lift (sliD x l h) t := rfl
theorem ev_rev {g : Gm} {a : Ex} {r : Ev.Env} {t : Tp} : ev g (.rev a) r t = (ev g a r t).bind fun x t => lift (revD x) t := rfl
theorem ev_call {g : Gm} {f : Nat} {es : Ex} {r : Ev.Env} {t : Tp} : ev g (.call f es) r t = (evs g es r t).bind fun vs t => (g.cl f vs t).bind fun x t => .ok x.1 t := rfl
theorem ev_bi {g : Gm} {b : Bi} {es : Ex} {r : Ev.Env} {t : Tp} : ev g (.bi b es) r t = (evs g es r t).bind fun vs t => lift ((allD vs).bind (biD b)) t := rfl
theorem ev_isi {g : Gm} {a : Ex} {ts : List Ty} {r : Ev.Env} {t : Tp} : ev g (.isi a ts) r t = (ev g a r t).bind fun x t => .ok (.bool (ts.any (isTy x))) t := rfl
theorem ev_met {g : Gm} {m : Me} {o : Ex} {es : Ex} {r : Ev.Env} {t : Tp} : ev g (.met m o es) r t = (ev g o r t).bind fun x t => (lift (lstD x) t).bind fun xs t => (evs g es r t).bind fun vs t => lift ((allD vs).bind (metD m xs)) t := rfl
theorem ev_gix {g : Gm} {k : Nat} {e : Ex} {r : Ev.Env} {t : Tp} : ev g (.gix k e) r t = (ev g e r t).bind fun x t => lift ((g.glb k).bind fun d => gixD d x) t := rfl
theorem ev_lof {g : Gm} {a : Ex} {r : Ev.Env} {t : Tp} : ev g (.lof a) r t = (ev g a r t).bind fun x t => lift ((iterD x).map .list) t := rfl
theorem ev_tof {g : Gm} {a : Ex} {r : Ev.Env} {t : Tp} : ev g (.tof a) r t = (ev g a r t).bind fun x t => lift ((iterD x).map .tuple) t := rfl
theorem ev_rv2 {g : Gm} {a : Ex} {r : Ev.Env} {t : Tp} : ev g (.rv2 a) r t = (ev g a r t).bind fun x t => lift (rv2D x) t := rfl
theorem ev_act {g : Gm} {i : Nat} {r : Ev.Env} {t : Tp} : ev g (.act i) r t = match getV r i with
    | some (.lam b q) => g.act b (q.map fun o => o.map .d) t
    | _ => .bad := rfl
theorem ev_isx {g : Gm} {i : Nat} {c : Nat} {r : Ev.Env} {t : Tp} : ev g (.isx i c) r t = match getV r i with
    | some (.exc d _) => .ok (.bool (decide (c = d) || decide (c = 1000))) t
    | _ => .bad := rfl
theorem ev_plc {g : Gm} {i : Nat} {r : Ev.Env} {t : Tp} : ev g (.plc i) r t = match getV r i with
    | some (.exc _ [x]) => .ok x t
    | _ => .bad := rfl
theorem ev_rng {g : Gm} {a : Ex} {b : Ex} {r : Ev.Env} {t : Tp} : ev g (.rng a b) r t = (ev g a r t).bind fun x t => (ev g b r t).bind fun y t => lift ((asInt x).bind fun i => (asInt y).bind fun j => if i.natAbs < 2 ^ 60 ∧ j.natAbs < 2 ^ 60 then some (.list (rngD i j)) else none) t := rfl
theorem ev_rn3 {g : Gm} {a : Ex} {b : Ex} {c : Ex} {r : Ev.Env} {t : Tp} : ev g (.rn3 a b c) r t = (ev g a r t).bind fun x t => (ev g b r t).bind fun y t => (ev g c r t).bind fun z t => lift ((asInt x).bind fun i => (asInt y).bind fun j => (asInt z).bind fun k => if i.natAbs < 2 ^ 60 ∧ j.natAbs < 2 ^ 60 ∧ k ≠ 0 ∧ k.natAbs < 2 ^ 20 then some (.list (rn3D i j k)) else none) t := rfl
theorem ev_enu {g : Gm} {a : Ex} {s : Ex} {r : Ev.Env} {t : Tp} : ev g (.enu a s) r t = (ev g a r t).bind fun x t => (part (isNil s) (ev g s r) t).bind fun k t => lift (enuV (k.getD 0) x) t := rfl
theorem ev_zip {g : Gm} {a : Ex} {b : Ex} {r : Ev.Env} {t : Tp} : ev g (.zip a b) r t = (ev g a r t).bind fun x t => (ev g b r t).bind fun y t => lift (zipV x y) t := rfl
theorem ev_vals {g : Gm} {a : Ex} {r : Ev.Env} {t : Tp} : ev g (.vals a) r t = (ev g a r t).bind fun x t => lift (match x with | .dict kvs => some (.list (kvs.map (·.2))) | _ => none) t := rfl
theorem ev_its {g : Gm} {a : Ex} {r : Ev.Env} {t : Tp} : ev g (.its a) r t = (ev g a r t).bind fun x t => lift (match x with | .dict kvs => some (.list (kvs.map fun p => .tuple [p.1, p.2])) | _ => none) t := rfl
/-- a comprehension's turn -/
def compF (g : Gm) (p : Pa) (c e : Ex) (r : Ev.Env) : PyData → Tp → Res (Option PyData) := fun x t => (lift (asg p x (blank (slotsP p) r)) t).bind fun r t =>
  (test (isNil c) (ev g c r) t).bind fun k t => if k = true then (ev g e r t).bind fun y t => .ok (some y) t else .ok none t
theorem ev_comp {g : Gm} {p : Pa} {it c e : Ex} {r : Ev.Env} {t : Tp} : ev g (.comp p it c e) r t = (ev g it r t).bind fun xs t => (lift (walkD xs) t).bind fun xs t => ((mapT (compF g p c e r) xs t).bind fun ys t => .ok (.list ys) t).quiet := rfl
/-- a double comprehension's outer turn -/
def comp2F (g : Gm) (p : Pa) (q : Pa) (it2 c e : Ex) (r : Ev.Env) : PyData → Tp → Res (List PyData) := fun x t => (lift (asg p x (blank (slotsP p ++ slotsP q) r)) t).bind fun r t =>
  (ev g it2 r t).bind fun zs t => (lift (walkD zs) t).bind fun zs t => mapT (compF g q c e r) zs t
theorem ev_comp2 {g : Gm} {p : Pa} {it : Ex} {q : Pa} {it2 c e : Ex} {r : Ev.Env} {t : Tp} : ev g (.comp2 p it q it2 c e) r t = (ev g it r t).bind fun xs t => (lift (walkD xs) t).bind fun xs t => ((mapC (comp2F g p q it2 c e r) xs t).bind fun ys t => .ok (.list ys) t).quiet := rfl
/-- a dict comprehension's turn -/
def dcomF (g : Gm) (p : Pa) (k v : Ex) (r : Ev.Env) : PyData → Tp → Res (Option PyData) := fun x t => (lift (asg p x (blank (slotsP p) r)) t).bind fun r t =>
  (ev g k r t).bind fun a t => (ev g v r t).bind fun b t => .ok (some (.tuple [a, b])) t
theorem ev_dcom {g : Gm} {p : Pa} {it k v : Ex} {r : Ev.Env} {t : Tp} : ev g (.dcom p it k v) r t = (ev g it r t).bind fun xs t => (lift (walkD xs) t).bind fun xs t => ((mapT (dcomF g p k v r) xs t).bind fun ys t => lift ((putPs [] ys).map .dict) t).quiet := rfl
/-- a key's turn -/
def srtF (g : Gm) (p : Pa) (k : Ex) (r : Ev.Env) : PyData → Tp → Res (Option PyData) := fun x t => (lift (asg p x (blank (slotsP p) r)) t).bind fun r t => (ev g k r t).bind fun y t => .ok (some y) t
theorem ev_srt {g : Gm} {p : Pa} {a k : Ex} {r : Ev.Env} {t : Tp} : ev g (.srt p a k) r t = (ev g a r t).bind fun x t => (lift (walkD x) t).bind fun xs t => ((mapT (srtF g p k r) xs t).bind fun ks t => lift (if (okOrd ks && sortable ks) = true then some (.list (sortK (ks.zip xs))) else none) t).quiet := rfl
theorem asg_nm {i : Nat} {x : PyData} {r : Ev.Env} : asg (.nm i) x r = some (r.set i (some (.d x))) := rfl
theorem asg_tt {p : Pa} {xs : List PyData} {r : Ev.Env} : asg (.tup p) (.tuple xs) r = asgs p xs r := rfl
theorem asg_tl {p : Pa} {xs : List PyData} {r : Ev.Env} : asg (.tup p) (.list xs) r = asgs p xs r := rfl
theorem asgs_nil {r : Ev.Env} : asgs .nil [] r = some r := rfl
theorem asgs_cons {p q : Pa} {x : PyData} {xs : List PyData} {r : Ev.Env} : asgs (.cons p q) (x :: xs) r = (asg p x r).bind fun r' => asgs q xs r' := rfl
theorem gix_eq {d e : PyData} : (some d).bind (fun d => gixD d e) = gixD d e := rfl
theorem rng_in {i j : Int} (h : i.natAbs < 2 ^ 60) (k : j.natAbs < 2 ^ 60) : ((asInt (.int i)).bind fun i => (asInt (.int j)).bind fun j => if i.natAbs < 2 ^ 60 ∧ j.natAbs < 2 ^ 60 then some (PyData.list (rngD i j)) else none) = some (.list (rngD i j)) := if_pos ⟨h, k⟩

/-! ### one step -/
theorem vs_var {g : Gm} {i : Nat} {q : Ex} {r : Env} {t : Tp} : evs g (.cons (.var i) q) r t = (ev g (.var i) r t).bind fun x t => (evs g q r t).bind fun xs t => .ok (.d x :: xs) t := rfl
theorem vR_var {g : Gm} {i : Nat} {r : Env} {t : Tp} : evR g (.var i) r t = (ev g (.var i) r t).bind fun x t => .ok (x, fresh (.var i)) t := rfl
theorem vs_non {g : Gm}  {q : Ex} {r : Env} {t : Tp} : evs g (.cons (.non) q) r t = (ev g (.non) r t).bind fun x t => (evs g q r t).bind fun xs t => .ok (.d x :: xs) t := rfl
theorem vR_non {g : Gm}  {r : Env} {t : Tp} : evR g (.non) r t = (ev g (.non) r t).bind fun x t => .ok (x, fresh (.non)) t := rfl
theorem vs_bl {g : Gm} {b : Bool} {q : Ex} {r : Env} {t : Tp} : evs g (.cons (.bl b) q) r t = (ev g (.bl b) r t).bind fun x t => (evs g q r t).bind fun xs t => .ok (.d x :: xs) t := rfl
theorem vR_bl {g : Gm} {b : Bool} {r : Env} {t : Tp} : evR g (.bl b) r t = (ev g (.bl b) r t).bind fun x t => .ok (x, fresh (.bl b)) t := rfl
theorem vs_int {g : Gm} {i : Int} {q : Ex} {r : Env} {t : Tp} : evs g (.cons (.int i) q) r t = (ev g (.int i) r t).bind fun x t => (evs g q r t).bind fun xs t => .ok (.d x :: xs) t := rfl
theorem vR_int {g : Gm} {i : Int} {r : Env} {t : Tp} : evR g (.int i) r t = (ev g (.int i) r t).bind fun x t => .ok (x, fresh (.int i)) t := rfl
theorem vs_str {g : Gm} {s : Str} {q : Ex} {r : Env} {t : Tp} : evs g (.cons (.str s) q) r t = (ev g (.str s) r t).bind fun x t => (evs g q r t).bind fun xs t => .ok (.d x :: xs) t := rfl
theorem vR_str {g : Gm} {s : Str} {r : Env} {t : Tp} : evR g (.str s) r t = (ev g (.str s) r t).bind fun x t => .ok (x, fresh (.str s)) t := rfl
theorem vs_glb {g : Gm} {k : Nat} {q : Ex} {r : Env} {t : Tp} : evs g (.cons (.glb k) q) r t = (ev g (.glb k) r t).bind fun x t => (evs g q r t).bind fun xs t => .ok (.d x :: xs) t := rfl
theorem vR_glb {g : Gm} {k : Nat} {r : Env} {t : Tp} : evR g (.glb k) r t = (ev g (.glb k) r t).bind fun x t => .ok (x, fresh (.glb k)) t := rfl
theorem vs_scs {g : Gm} {i : Nat} {lo hi : Ex} {q : Ex} {r : Env} {t : Tp} : evs g (.cons (.scs i lo hi) q) r t = (ev g (.scs i lo hi) r t).bind fun x t => (evs g q r t).bind fun xs t => .ok (.d x :: xs) t := rfl
theorem vR_scs {g : Gm} {i : Nat} {lo hi : Ex} {r : Env} {t : Tp} : evR g (.scs i lo hi) r t = (ev g (.scs i lo hi) r t).bind fun x t => .ok (x, fresh (.scs i lo hi)) t := rfl
theorem vs_tup {g : Gm} {a : Ex} {q : Ex} {r : Env} {t : Tp} : evs g (.cons (.tup a) q) r t = (ev g (.tup a) r t).bind fun x t => (evs g q r t).bind fun xs t => .ok (.d x :: xs) t := rfl
theorem vR_tup {g : Gm} {a : Ex} {r : Env} {t : Tp} : evR g (.tup a) r t = (ev g (.tup a) r t).bind fun x t => .ok (x, fresh (.tup a)) t := rfl
theorem vs_lst {g : Gm} {a : Ex} {q : Ex} {r : Env} {t : Tp} : evs g (.cons (.lst a) q) r t = (ev g (.lst a) r t).bind fun x t => (evs g q r t).bind fun xs t => .ok (.d x :: xs) t := rfl
theorem vR_lst {g : Gm} {a : Ex} {r : Env} {t : Tp} : evR g (.lst a) r t = (ev g (.lst a) r t).bind fun x t => .ok (x, fresh (.lst a)) t := rfl
theorem vs_dic {g : Gm} {a b : Ex} {q : Ex} {r : Env} {t : Tp} : evs g (.cons (.dic a b) q) r t = (ev g (.dic a b) r t).bind fun x t => (evs g q r t).bind fun xs t => .ok (.d x :: xs) t := rfl
theorem vR_dic {g : Gm} {a b : Ex} {r : Env} {t : Tp} : evR g (.dic a b) r t = (ev g (.dic a b) r t).bind fun x t => .ok (x, fresh (.dic a b)) t := rfl
theorem vs_bin {g : Gm} {o : BOp} {a b : Ex} {q : Ex} {r : Env} {t : Tp} : evs g (.cons (.bin o a b) q) r t = (ev g (.bin o a b) r t).bind fun x t => (evs g q r t).bind fun xs t => .ok (.d x :: xs) t := rfl
theorem vR_bin {g : Gm} {o : BOp} {a b : Ex} {r : Env} {t : Tp} : evR g (.bin o a b) r t = (ev g (.bin o a b) r t).bind fun x t => .ok (x, fresh (.bin o a b)) t := rfl
theorem vs_neg {g : Gm} {a : Ex} {q : Ex} {r : Env} {t : Tp} : evs g (.cons (.neg a) q) r t = (ev g (.neg a) r t).bind fun x t => (evs g q r t).bind fun xs t => .ok (.d x :: xs) t := rfl
theorem vR_neg {g : Gm} {a : Ex} {r : Env} {t : Tp} : evR g (.neg a) r t = (ev g (.neg a) r t).bind fun x t => .ok (x, fresh (.neg a)) t := rfl
theorem vs_not {g : Gm} {a : Ex} {q : Ex} {r : Env} {t : Tp} : evs g (.cons (.not a) q) r t = (ev g (.not a) r t).bind fun x t => (evs g q r t).bind fun xs t => .ok (.d x :: xs) t := rfl
theorem vR_not {g : Gm} {a : Ex} {r : Env} {t : Tp} : evR g (.not a) r t = (ev g (.not a) r t).bind fun x t => .ok (x, fresh (.not a)) t := rfl
theorem vs_and {g : Gm} {a b : Ex} {q : Ex} {r : Env} {t : Tp} : evs g (.cons (.and a b) q) r t = (ev g (.and a b) r t).bind fun x t => (evs g q r t).bind fun xs t => .ok (.d x :: xs) t := rfl
theorem vR_and {g : Gm} {a b : Ex} {r : Env} {t : Tp} : evR g (.and a b) r t = (ev g (.and a b) r t).bind fun x t => .ok (x, fresh (.and a b)) t := rfl
theorem vs_or {g : Gm} {a b : Ex} {q : Ex} {r : Env} {t : Tp} : evs g (.cons (.or a b) q) r t = (ev g (.or a b) r t).bind fun x t => (evs g q r t).bind fun xs t => .ok (.d x :: xs) t := rfl
theorem vR_or {g : Gm} {a b : Ex} {r : Env} {t : Tp} : evR g (.or a b) r t = (ev g (.or a b) r t).bind fun x t => .ok (x, fresh (.or a b)) t := rfl
theorem vs_cmp {g : Gm} {o : COp} {a b : Ex} {q : Ex} {r : Env} {t : Tp} : evs g (.cons (.cmp o a b) q) r t = (ev g (.cmp o a b) r t).bind fun x t => (evs g q r t).bind fun xs t => .ok (.d x :: xs) t := rfl
theorem vR_cmp {g : Gm} {o : COp} {a b : Ex} {r : Env} {t : Tp} : evR g (.cmp o a b) r t = (ev g (.cmp o a b) r t).bind fun x t => .ok (x, fresh (.cmp o a b)) t := rfl
theorem vs_cm2 {g : Gm} {o p : COp} {a b c : Ex} {q : Ex} {r : Env} {t : Tp} : evs g (.cons (.cm2 o p a b c) q) r t = (ev g (.cm2 o p a b c) r t).bind fun x t => (evs g q r t).bind fun xs t => .ok (.d x :: xs) t := rfl
theorem vR_cm2 {g : Gm} {o p : COp} {a b c : Ex} {r : Env} {t : Tp} : evR g (.cm2 o p a b c) r t = (ev g (.cm2 o p a b c) r t).bind fun x t => .ok (x, fresh (.cm2 o p a b c)) t := rfl
theorem vs_isn {g : Gm} {a : Ex} {q : Ex} {r : Env} {t : Tp} : evs g (.cons (.isn a) q) r t = (ev g (.isn a) r t).bind fun x t => (evs g q r t).bind fun xs t => .ok (.d x :: xs) t := rfl
theorem vR_isn {g : Gm} {a : Ex} {r : Env} {t : Tp} : evR g (.isn a) r t = (ev g (.isn a) r t).bind fun x t => .ok (x, fresh (.isn a)) t := rfl
theorem vs_nsn {g : Gm} {a : Ex} {q : Ex} {r : Env} {t : Tp} : evs g (.cons (.nsn a) q) r t = (ev g (.nsn a) r t).bind fun x t => (evs g q r t).bind fun xs t => .ok (.d x :: xs) t := rfl
theorem vR_nsn {g : Gm} {a : Ex} {r : Env} {t : Tp} : evR g (.nsn a) r t = (ev g (.nsn a) r t).bind fun x t => .ok (x, fresh (.nsn a)) t := rfl
theorem vs_ite {g : Gm} {c a b : Ex} {q : Ex} {r : Env} {t : Tp} : evs g (.cons (.ite c a b) q) r t = (ev g (.ite c a b) r t).bind fun x t => (evs g q r t).bind fun xs t => .ok (.d x :: xs) t := rfl
theorem vs_idx {g : Gm} {a i : Ex} {q : Ex} {r : Env} {t : Tp} : evs g (.cons (.idx a i) q) r t = (ev g (.idx a i) r t).bind fun x t => (evs g q r t).bind fun xs t => .ok (.d x :: xs) t := rfl
theorem vR_idx {g : Gm} {a i : Ex} {r : Env} {t : Tp} : evR g (.idx a i) r t = (ev g (.idx a i) r t).bind fun x t => .ok (x, fresh (.idx a i)) t := rfl
theorem vs_tix {g : Gm} {i : Nat} {k : Ex} {q : Ex} {r : Env} {t : Tp} : evs g (.cons (.tix i k) q) r t = (ev g (.tix i k) r t).bind fun x t => (evs g q r t).bind fun xs t => .ok (.d x :: xs) t := rfl
theorem vR_tix {g : Gm} {i : Nat} {k : Ex} {r : Env} {t : Tp} : evR g (.tix i k) r t = (ev g (.tix i k) r t).bind fun x t => .ok (x, fresh (.tix i k)) t := rfl
theorem vs_sli {g : Gm} {a lo hi : Ex} {q : Ex} {r : Env} {t : Tp} : evs g (.cons (.sli a lo hi) q) r t = (ev g (.sli a lo hi) r t).bind fun x t => (evs g q r t).bind fun xs t => .ok (.d x :: xs) t := rfl
theorem vR_sli {g : Gm} {a lo hi : Ex} {r : Env} {t : Tp} : evR g (.sli a lo hi) r t = (ev g (.sli a lo hi) r t).bind fun x t => .ok (x, fresh (.sli a lo hi)) t := rfl
theorem vs_rev {g : Gm} {a : Ex} {q : Ex} {r : Env} {t : Tp} : evs g (.cons (.rev a) q) r t = (ev g (.rev a) r t).bind fun x t => (evs g q r t).bind fun xs t => .ok (.d x :: xs) t := rfl
theorem vR_rev {g : Gm} {a : Ex} {r : Env} {t : Tp} : evR g (.rev a) r t = (ev g (.rev a) r t).bind fun x t => .ok (x, fresh (.rev a)) t := rfl
theorem vs_call {g : Gm} {f : Nat} {a : Ex} {q : Ex} {r : Env} {t : Tp} : evs g (.cons (.call f a) q) r t = (ev g (.call f a) r t).bind fun x t => (evs g q r t).bind fun xs t => .ok (.d x :: xs) t := rfl
theorem vs_bi {g : Gm} {b : Bi} {a : Ex} {q : Ex} {r : Env} {t : Tp} : evs g (.cons (.bi b a) q) r t = (ev g (.bi b a) r t).bind fun x t => (evs g q r t).bind fun xs t => .ok (.d x :: xs) t := rfl
theorem vR_bi {g : Gm} {b : Bi} {a : Ex} {r : Env} {t : Tp} : evR g (.bi b a) r t = (ev g (.bi b a) r t).bind fun x t => .ok (x, fresh (.bi b a)) t := rfl
theorem vs_isi {g : Gm} {a : Ex} {ts : List Ty} {q : Ex} {r : Env} {t : Tp} : evs g (.cons (.isi a ts) q) r t = (ev g (.isi a ts) r t).bind fun x t => (evs g q r t).bind fun xs t => .ok (.d x :: xs) t := rfl
theorem vR_isi {g : Gm} {a : Ex} {ts : List Ty} {r : Env} {t : Tp} : evR g (.isi a ts) r t = (ev g (.isi a ts) r t).bind fun x t => .ok (x, fresh (.isi a ts)) t := rfl
theorem vs_met {g : Gm} {m : Me} {o a : Ex} {q : Ex} {r : Env} {t : Tp} : evs g (.cons (.met m o a) q) r t = (ev g (.met m o a) r t).bind fun x t => (evs g q r t).bind fun xs t => .ok (.d x :: xs) t := rfl
theorem vR_met {g : Gm} {m : Me} {o a : Ex} {r : Env} {t : Tp} : evR g (.met m o a) r t = (ev g (.met m o a) r t).bind fun x t => .ok (x, fresh (.met m o a)) t := rfl
theorem vs_comp {g : Gm} {p : Pa} {it c e : Ex} {q : Ex} {r : Env} {t : Tp} : evs g (.cons (.comp p it c e) q) r t = (ev g (.comp p it c e) r t).bind fun x t => (evs g q r t).bind fun xs t => .ok (.d x :: xs) t := rfl
theorem vR_comp {g : Gm} {p : Pa} {it c e : Ex} {r : Env} {t : Tp} : evR g (.comp p it c e) r t = (ev g (.comp p it c e) r t).bind fun x t => .ok (x, fresh (.comp p it c e)) t := rfl
theorem vs_dcom {g : Gm} {p : Pa} {it k v : Ex} {q : Ex} {r : Env} {t : Tp} : evs g (.cons (.dcom p it k v) q) r t = (ev g (.dcom p it k v) r t).bind fun x t => (evs g q r t).bind fun xs t => .ok (.d x :: xs) t := rfl
theorem vR_dcom {g : Gm} {p : Pa} {it k v : Ex} {r : Env} {t : Tp} : evR g (.dcom p it k v) r t = (ev g (.dcom p it k v) r t).bind fun x t => .ok (x, fresh (.dcom p it k v)) t := rfl
theorem vs_comp2 {g : Gm} {p : Pa} {it : Ex} {q1 : Pa} {it2 c e : Ex} {q : Ex} {r : Env} {t : Tp} : evs g (.cons (.comp2 p it q1 it2 c e) q) r t = (ev g (.comp2 p it q1 it2 c e) r t).bind fun x t => (evs g q r t).bind fun xs t => .ok (.d x :: xs) t := rfl
theorem vR_comp2 {g : Gm} {p : Pa} {it : Ex} {q1 : Pa} {it2 c e : Ex} {r : Env} {t : Tp} : evR g (.comp2 p it q1 it2 c e) r t = (ev g (.comp2 p it q1 it2 c e) r t).bind fun x t => .ok (x, fresh (.comp2 p it q1 it2 c e)) t := rfl
theorem vs_rng {g : Gm} {a b : Ex} {q : Ex} {r : Env} {t : Tp} : evs g (.cons (.rng a b) q) r t = (ev g (.rng a b) r t).bind fun x t => (evs g q r t).bind fun xs t => .ok (.d x :: xs) t := rfl
theorem vR_rng {g : Gm} {a b : Ex} {r : Env} {t : Tp} : evR g (.rng a b) r t = (ev g (.rng a b) r t).bind fun x t => .ok (x, fresh (.rng a b)) t := rfl
theorem vs_rn3 {g : Gm} {a b c : Ex} {q : Ex} {r : Env} {t : Tp} : evs g (.cons (.rn3 a b c) q) r t = (ev g (.rn3 a b c) r t).bind fun x t => (evs g q r t).bind fun xs t => .ok (.d x :: xs) t := rfl
theorem vR_rn3 {g : Gm} {a b c : Ex} {r : Env} {t : Tp} : evR g (.rn3 a b c) r t = (ev g (.rn3 a b c) r t).bind fun x t => .ok (x, fresh (.rn3 a b c)) t := rfl
theorem vs_enu {g : Gm} {a s : Ex} {q : Ex} {r : Env} {t : Tp} : evs g (.cons (.enu a s) q) r t = (ev g (.enu a s) r t).bind fun x t => (evs g q r t).bind fun xs t => .ok (.d x :: xs) t := rfl
theorem vR_enu {g : Gm} {a s : Ex} {r : Env} {t : Tp} : evR g (.enu a s) r t = (ev g (.enu a s) r t).bind fun x t => .ok (x, fresh (.enu a s)) t := rfl
theorem vs_zip {g : Gm} {a b : Ex} {q : Ex} {r : Env} {t : Tp} : evs g (.cons (.zip a b) q) r t = (ev g (.zip a b) r t).bind fun x t => (evs g q r t).bind fun xs t => .ok (.d x :: xs) t := rfl
theorem vR_zip {g : Gm} {a b : Ex} {r : Env} {t : Tp} : evR g (.zip a b) r t = (ev g (.zip a b) r t).bind fun x t => .ok (x, fresh (.zip a b)) t := rfl
theorem vs_vals {g : Gm} {a : Ex} {q : Ex} {r : Env} {t : Tp} : evs g (.cons (.vals a) q) r t = (ev g (.vals a) r t).bind fun x t => (evs g q r t).bind fun xs t => .ok (.d x :: xs) t := rfl
theorem vR_vals {g : Gm} {a : Ex} {r : Env} {t : Tp} : evR g (.vals a) r t = (ev g (.vals a) r t).bind fun x t => .ok (x, fresh (.vals a)) t := rfl
theorem vs_its {g : Gm} {a : Ex} {q : Ex} {r : Env} {t : Tp} : evs g (.cons (.its a) q) r t = (ev g (.its a) r t).bind fun x t => (evs g q r t).bind fun xs t => .ok (.d x :: xs) t := rfl
theorem vR_its {g : Gm} {a : Ex} {r : Env} {t : Tp} : evR g (.its a) r t = (ev g (.its a) r t).bind fun x t => .ok (x, fresh (.its a)) t := rfl
theorem vs_lof {g : Gm} {a : Ex} {q : Ex} {r : Env} {t : Tp} : evs g (.cons (.lof a) q) r t = (ev g (.lof a) r t).bind fun x t => (evs g q r t).bind fun xs t => .ok (.d x :: xs) t := rfl
theorem vR_lof {g : Gm} {a : Ex} {r : Env} {t : Tp} : evR g (.lof a) r t = (ev g (.lof a) r t).bind fun x t => .ok (x, fresh (.lof a)) t := rfl
theorem vs_act {g : Gm} {i : Nat} {q : Ex} {r : Env} {t : Tp} : evs g (.cons (.act i) q) r t = (ev g (.act i) r t).bind fun x t => (evs g q r t).bind fun xs t => .ok (.d x :: xs) t := rfl
theorem vR_act {g : Gm} {i : Nat} {r : Env} {t : Tp} : evR g (.act i) r t = (ev g (.act i) r t).bind fun x t => .ok (x, fresh (.act i)) t := rfl
theorem vs_isx {g : Gm} {i c : Nat} {q : Ex} {r : Env} {t : Tp} : evs g (.cons (.isx i c) q) r t = (ev g (.isx i c) r t).bind fun x t => (evs g q r t).bind fun xs t => .ok (.d x :: xs) t := rfl
theorem vR_isx {g : Gm} {i c : Nat} {r : Env} {t : Tp} : evR g (.isx i c) r t = (ev g (.isx i c) r t).bind fun x t => .ok (x, fresh (.isx i c)) t := rfl
theorem vs_plc {g : Gm} {i : Nat} {q : Ex} {r : Env} {t : Tp} : evs g (.cons (.plc i) q) r t = (ev g (.plc i) r t).bind fun x t => (evs g q r t).bind fun xs t => .ok (.d x :: xs) t := rfl
theorem vR_plc {g : Gm} {i : Nat} {r : Env} {t : Tp} : evR g (.plc i) r t = (ev g (.plc i) r t).bind fun x t => .ok (x, fresh (.plc i)) t := rfl
theorem vs_srt {g : Gm} {p : Pa} {a k : Ex} {q : Ex} {r : Env} {t : Tp} : evs g (.cons (.srt p a k) q) r t = (ev g (.srt p a k) r t).bind fun x t => (evs g q r t).bind fun xs t => .ok (.d x :: xs) t := rfl
theorem vR_srt {g : Gm} {p : Pa} {a k : Ex} {r : Env} {t : Tp} : evR g (.srt p a k) r t = (ev g (.srt p a k) r t).bind fun x t => .ok (x, fresh (.srt p a k)) t := rfl
theorem vs_rv2 {g : Gm} {a : Ex} {q : Ex} {r : Env} {t : Tp} : evs g (.cons (.rv2 a) q) r t = (ev g (.rv2 a) r t).bind fun x t => (evs g q r t).bind fun xs t => .ok (.d x :: xs) t := rfl
theorem vR_rv2 {g : Gm} {a : Ex} {r : Env} {t : Tp} : evR g (.rv2 a) r t = (ev g (.rv2 a) r t).bind fun x t => .ok (x, fresh (.rv2 a)) t := rfl
theorem vs_tof {g : Gm} {a : Ex} {q : Ex} {r : Env} {t : Tp} : evs g (.cons (.tof a) q) r t = (ev g (.tof a) r t).bind fun x t => (evs g q r t).bind fun xs t => .ok (.d x :: xs) t := rfl
theorem vR_tof {g : Gm} {a : Ex} {r : Env} {t : Tp} : evR g (.tof a) r t = (ev g (.tof a) r t).bind fun x t => .ok (x, fresh (.tof a)) t := rfl
theorem vs_gix {g : Gm} {k : Nat} {a : Ex} {q : Ex} {r : Env} {t : Tp} : evs g (.cons (.gix k a) q) r t = (ev g (.gix k a) r t).bind fun x t => (evs g q r t).bind fun xs t => .ok (.d x :: xs) t := rfl
theorem vR_gix {g : Gm} {k : Nat} {a : Ex} {r : Env} {t : Tp} : evR g (.gix k a) r t = (ev g (.gix k a) r t).bind fun x t => .ok (x, fresh (.gix k a)) t := rfl
theorem vs_nil {g : Gm} {r : Env} {t : Tp} : evs g .nil r t = .ok [] t := rfl
theorem vs_tpv {g : Gm} {i : Nat} {q : Ex} {r : Env} {t : Tp} : evs g (.cons (.tpv i) q) r t = match getV r i with | some .tp => (evs g q r t).bind fun xs t => .ok (.tp :: xs) t | _ => .bad := rfl
theorem vs_scv {g : Gm} {i : Nat} {q : Ex} {r : Env} {t : Tp} : evs g (.cons (.scv i) q) r t = match getV r i with | some (.scr ns) => (evs g q r t).bind fun xs t => .ok (.scr ns :: xs) t | _ => .bad := rfl
theorem vs_lam {g : Gm} {b q : Ex} {r : Env} {t : Tp} : evs g (.cons (.lam b) q) r t = (evs g q r t).bind fun xs t => .ok (.lam b (shut r) :: xs) t := rfl
theorem vR_call {g : Gm} {f : Nat} {es : Ex} {r : Env} {t : Tp} : evR g (.call f es) r t = (evs g es r t).bind fun vs t => g.cl f vs t := rfl
theorem vR_ite {g : Gm} {c a b : Ex} {r : Env} {t : Tp} : evR g (.ite c a b) r t = (ev g c r t).bind fun x t => (lift (truthD x) t).bind fun k t => if k = true then evR g a r t else evR g b r t := rfl
theorem gv_0 {v : Option Vl} {r : Ev.Env} : getV (v :: r) 0 = v := by cases v <;> rfl
theorem gv_s {v : Option Vl} {r : Ev.Env} {n : Nat} : getV (v :: r) (n + 1) = getV r n := rfl
theorem ix_l0 {a0 : PyData} {r : List PyData} : idxD (.list (a0 :: r)) (.int 0) = some a0 := by
  have h : ixN (a0 :: r).length 0 = some 0 := by
    unfold ixN
    rw [if_pos (by decide), if_pos (by simp only [List.length_cons]; omega)]
    rfl
  show (ixN _ _).bind _ = _
  rw [h]
  rfl
theorem ix_t0 {a0 : PyData} {r : List PyData} : idxD (.tuple (a0 :: r)) (.int 0) = some a0 := by
  have h : ixN (a0 :: r).length 0 = some 0 := by
    unfold ixN
    rw [if_pos (by decide), if_pos (by simp only [List.length_cons]; omega)]
    rfl
  show (ixN _ _).bind _ = _
  rw [h]
  rfl
theorem st_l0 {a0 v : PyData} {r : List PyData} : stoD (.list (a0 :: r)) (.int 0) v = some (.list ((a0 :: r).set 0 v)) := by
  have h : ixN (a0 :: r).length 0 = some 0 := by
    unfold ixN
    rw [if_pos (by decide), if_pos (by simp only [List.length_cons]; omega)]
    rfl
  show ((ixN _ _).map _) = _
  rw [h]
  rfl
theorem ix_l1 {a0 a1 : PyData} {r : List PyData} : idxD (.list (a0 :: a1 :: r)) (.int 1) = some a1 := by
  have h : ixN (a0 :: a1 :: r).length 1 = some 1 := by
    unfold ixN
    rw [if_pos (by decide), if_pos (by simp only [List.length_cons]; omega)]
    rfl
  show (ixN _ _).bind _ = _
  rw [h]
  rfl
theorem ix_t1 {a0 a1 : PyData} {r : List PyData} : idxD (.tuple (a0 :: a1 :: r)) (.int 1) = some a1 := by
  have h : ixN (a0 :: a1 :: r).length 1 = some 1 := by
    unfold ixN
    rw [if_pos (by decide), if_pos (by simp only [List.length_cons]; omega)]
    rfl
  show (ixN _ _).bind _ = _
  rw [h]
  rfl
theorem st_l1 {a0 a1 v : PyData} {r : List PyData} : stoD (.list (a0 :: a1 :: r)) (.int 1) v = some (.list ((a0 :: a1 :: r).set 1 v)) := by
  have h : ixN (a0 :: a1 :: r).length 1 = some 1 := by
    unfold ixN
    rw [if_pos (by decide), if_pos (by simp only [List.length_cons]; omega)]
    rfl
  show ((ixN _ _).map _) = _
  rw [h]
  rfl
theorem ix_l2 {a0 a1 a2 : PyData} {r : List PyData} : idxD (.list (a0 :: a1 :: a2 :: r)) (.int 2) = some a2 := by
  have h : ixN (a0 :: a1 :: a2 :: r).length 2 = some 2 := by
    unfold ixN
    rw [if_pos (by decide), if_pos (by simp only [List.length_cons]; omega)]
    rfl
  show (ixN _ _).bind _ = _
  rw [h]
  rfl
theorem ix_t2 {a0 a1 a2 : PyData} {r : List PyData} : idxD (.tuple (a0 :: a1 :: a2 :: r)) (.int 2) = some a2 := by
  have h : ixN (a0 :: a1 :: a2 :: r).length 2 = some 2 := by
    unfold ixN
    rw [if_pos (by decide), if_pos (by simp only [List.length_cons]; omega)]
    rfl
  show (ixN _ _).bind _ = _
  rw [h]
  rfl
theorem st_l2 {a0 a1 a2 v : PyData} {r : List PyData} : stoD (.list (a0 :: a1 :: a2 :: r)) (.int 2) v = some (.list ((a0 :: a1 :: a2 :: r).set 2 v)) := by
  have h : ixN (a0 :: a1 :: a2 :: r).length 2 = some 2 := by
    unfold ixN
    rw [if_pos (by decide), if_pos (by simp only [List.length_cons]; omega)]
    rfl
  show ((ixN _ _).map _) = _
  rw [h]
  rfl
theorem ix_l3 {a0 a1 a2 a3 : PyData} {r : List PyData} : idxD (.list (a0 :: a1 :: a2 :: a3 :: r)) (.int 3) = some a3 := by
  have h : ixN (a0 :: a1 :: a2 :: a3 :: r).length 3 = some 3 := by
    unfold ixN
    rw [if_pos (by decide), if_pos (by simp only [List.length_cons]; omega)]
    rfl
  show (ixN _ _).bind _ = _
  rw [h]
  rfl
theorem ix_t3 {a0 a1 a2 a3 : PyData} {r : List PyData} : idxD (.tuple (a0 :: a1 :: a2 :: a3 :: r)) (.int 3) = some a3 := by
  have h : ixN (a0 :: a1 :: a2 :: a3 :: r).length 3 = some 3 := by
    unfold ixN
    rw [if_pos (by decide), if_pos (by simp only [List.length_cons]; omega)]
    rfl
  show (ixN _ _).bind _ = _
  rw [h]
  rfl
theorem st_l3 {a0 a1 a2 a3 v : PyData} {r : List PyData} : stoD (.list (a0 :: a1 :: a2 :: a3 :: r)) (.int 3) v = some (.list ((a0 :: a1 :: a2 :: a3 :: r).set 3 v)) := by
  have h : ixN (a0 :: a1 :: a2 :: a3 :: r).length 3 = some 3 := by
    unfold ixN
    rw [if_pos (by decide), if_pos (by simp only [List.length_cons]; omega)]
    rfl
  show ((ixN _ _).map _) = _
  rw [h]
  rfl
theorem ix_l4 {a0 a1 a2 a3 a4 : PyData} {r : List PyData} : idxD (.list (a0 :: a1 :: a2 :: a3 :: a4 :: r)) (.int 4) = some a4 := by
  have h : ixN (a0 :: a1 :: a2 :: a3 :: a4 :: r).length 4 = some 4 := by
    unfold ixN
    rw [if_pos (by decide), if_pos (by simp only [List.length_cons]; omega)]
    rfl
  show (ixN _ _).bind _ = _
  rw [h]
  rfl
theorem ix_t4 {a0 a1 a2 a3 a4 : PyData} {r : List PyData} : idxD (.tuple (a0 :: a1 :: a2 :: a3 :: a4 :: r)) (.int 4) = some a4 := by
  have h : ixN (a0 :: a1 :: a2 :: a3 :: a4 :: r).length 4 = some 4 := by
    unfold ixN
    rw [if_pos (by decide), if_pos (by simp only [List.length_cons]; omega)]
    rfl
  show (ixN _ _).bind _ = _
  rw [h]
  rfl
theorem st_l4 {a0 a1 a2 a3 a4 v : PyData} {r : List PyData} : stoD (.list (a0 :: a1 :: a2 :: a3 :: a4 :: r)) (.int 4) v = some (.list ((a0 :: a1 :: a2 :: a3 :: a4 :: r).set 4 v)) := by
  have h : ixN (a0 :: a1 :: a2 :: a3 :: a4 :: r).length 4 = some 4 := by
    unfold ixN
    rw [if_pos (by decide), if_pos (by simp only [List.length_cons]; omega)]
    rfl
  show ((ixN _ _).map _) = _
  rw [h]
  rfl
theorem ix_l5 {a0 a1 a2 a3 a4 a5 : PyData} {r : List PyData} : idxD (.list (a0 :: a1 :: a2 :: a3 :: a4 :: a5 :: r)) (.int 5) = some a5 := by
  have h : ixN (a0 :: a1 :: a2 :: a3 :: a4 :: a5 :: r).length 5 = some 5 := by
    unfold ixN
    rw [if_pos (by decide), if_pos (by simp only [List.length_cons]; omega)]
    rfl
  show (ixN _ _).bind _ = _
  rw [h]
  rfl
theorem ix_t5 {a0 a1 a2 a3 a4 a5 : PyData} {r : List PyData} : idxD (.tuple (a0 :: a1 :: a2 :: a3 :: a4 :: a5 :: r)) (.int 5) = some a5 := by
  have h : ixN (a0 :: a1 :: a2 :: a3 :: a4 :: a5 :: r).length 5 = some 5 := by
    unfold ixN
    rw [if_pos (by decide), if_pos (by simp only [List.length_cons]; omega)]
    rfl
  show (ixN _ _).bind _ = _
  rw [h]
  rfl
theorem ix_l6 {a0 a1 a2 a3 a4 a5 a6 : PyData} {r : List PyData} : idxD (.list (a0 :: a1 :: a2 :: a3 :: a4 :: a5 :: a6 :: r)) (.int 6) = some a6 := by
  have h : ixN (a0 :: a1 :: a2 :: a3 :: a4 :: a5 :: a6 :: r).length 6 = some 6 := by
    unfold ixN
    rw [if_pos (by decide), if_pos (by simp only [List.length_cons]; omega)]
    rfl
  show (ixN _ _).bind _ = _
  rw [h]
  rfl
theorem ix_t6 {a0 a1 a2 a3 a4 a5 a6 : PyData} {r : List PyData} : idxD (.tuple (a0 :: a1 :: a2 :: a3 :: a4 :: a5 :: a6 :: r)) (.int 6) = some a6 := by
  have h : ixN (a0 :: a1 :: a2 :: a3 :: a4 :: a5 :: a6 :: r).length 6 = some 6 := by
    unfold ixN
    rw [if_pos (by decide), if_pos (by simp only [List.length_cons]; omega)]
    rfl
  show (ixN _ _).bind _ = _
  rw [h]
  rfl
theorem ix_l7 {a0 a1 a2 a3 a4 a5 a6 a7 : PyData} {r : List PyData} : idxD (.list (a0 :: a1 :: a2 :: a3 :: a4 :: a5 :: a6 :: a7 :: r)) (.int 7) = some a7 := by
  have h : ixN (a0 :: a1 :: a2 :: a3 :: a4 :: a5 :: a6 :: a7 :: r).length 7 = some 7 := by
    unfold ixN
    rw [if_pos (by decide), if_pos (by simp only [List.length_cons]; omega)]
    rfl
  show (ixN _ _).bind _ = _
  rw [h]
  rfl
theorem ix_t7 {a0 a1 a2 a3 a4 a5 a6 a7 : PyData} {r : List PyData} : idxD (.tuple (a0 :: a1 :: a2 :: a3 :: a4 :: a5 :: a6 :: a7 :: r)) (.int 7) = some a7 := by
  have h : ixN (a0 :: a1 :: a2 :: a3 :: a4 :: a5 :: a6 :: a7 :: r).length 7 = some 7 := by
    unfold ixN
    rw [if_pos (by decide), if_pos (by simp only [List.length_cons]; omega)]
    rfl
  show (ixN _ _).bind _ = _
  rw [h]
  rfl
theorem tr_b {b : Bool} : truthD (.bool b) = some b := rfl
theorem tr_i {i : Int} : truthD (.int i) = some (i != 0) := rfl
theorem cm_eq {a b : Int} : cmpD .eq (.int a) (.int b) = some (decide (a = b)) := by
  show eqD _ _ = _
  unfold eqD
  rw [if_pos (by rfl)]
  show some (a == b) = _
  rfl
theorem cm_ne {a b : Int} : cmpD .ne (.int a) (.int b) = some (decide (a ≠ b)) := by
  show (cmpD .eq (.int a) (.int b)).map _ = _
  rw [cm_eq]
  by_cases h : a = b
  · subst h; simp
  · simp [h]
theorem cm_lt {a b : Int} : cmpD .lt (.int a) (.int b) = some (decide (a < b)) := rfl
theorem cm_gt {a b : Int} : cmpD .gt (.int a) (.int b) = some (decide (b < a)) := rfl
theorem cm_le {a b : Int} : cmpD .le (.int a) (.int b) = some (decide (a ≤ b)) := by
  show some (!decide (b < a)) = _
  congr 1
  by_cases h : a ≤ b
  · rw [decide_eq_true h, decide_eq_false (by omega)]; rfl
  · rw [decide_eq_false h, decide_eq_true (by omega)]; rfl
theorem cm_ge {a b : Int} : cmpD .ge (.int a) (.int b) = some (decide (b ≤ a)) := by
  show some (!decide (a < b)) = _
  congr 1
  by_cases h : b ≤ a
  · rw [decide_eq_true h, decide_eq_false (by omega)]; rfl
  · rw [decide_eq_false h, decide_eq_true (by omega)]; rfl
theorem bn_add {a b : Int} : binD .add (.int a) (.int b) = some (.int (a + b)) := rfl
theorem bn_sub {a b : Int} : binD .sub (.int a) (.int b) = some (.int (a - b)) := rfl
theorem bn_mod {a b : Int} (h : 0 < b) : binD .mod (.int a) (.int b) = some (.int (a % b)) := if_pos h
theorem bn_fdiv {a b : Int} (h : 0 < b) (k : b.natAbs < 2 ^ 2000) : binD .fdiv (.int a) (.int b) = some (.int (a / b)) := if_pos ⟨h, k⟩
theorem bn_mulr {a b : Int} (h : -(2 ^ 64) < b ∧ b < 2 ^ 64) : binD .mul (.int a) (.int b) = some (.int (a * b)) := if_pos (.inr (.inl h))
theorem bn_mull {a b : Int} (h : -(2 ^ 64) < a ∧ a < 2 ^ 64) : binD .mul (.int a) (.int b) = some (.int (a * b)) := if_pos (.inl h)
theorem bn_fdiv' {a b : Int} (h : 0 < b) (k : b < 2 ^ 64) : binD .fdiv (.int a) (.int b) = some (.int (a / b)) := bn_fdiv h (Nat.lt_of_lt_of_le (show b.natAbs < 2 ^ 64 by omega) (Nat.pow_le_pow_right (by decide) (by decide)))
theorem ex_some {α : Type} {x : α} {P : α → Prop} : (∃ a, some x = some a ∧ P a) = P x := propext ⟨fun ⟨a, e, h⟩ => by cases e; exact h, fun h => ⟨x, rfl, h⟩⟩
theorem bi_int {a : Int} : biD .int [.int a] = some (.int a) := rfl
theorem bi_lenl {xs : List PyData} : biD .len [.list xs] = some (.int xs.length) := rfl
theorem bi_lent {xs : List PyData} : biD .len [.tuple xs] = some (.int xs.length) := rfl
theorem al_nil : allD [] = some [] := rfl
theorem al_cons {x : PyData} {r : List Vl} : allD (.d x :: r) = (allD r).map (x :: ·) := rfl

theorem bd_ok {α β : Type} {a : α} {t : Tp} {f : α → Tp → Res β} : (Res.ok a t).bind f = f a t := rfl
theorem lift_some {α : Type} {a : α} {t : Tp} : lift (some a) t = .ok a t := rfl
theorem part_t {q : Tp → Res PyData} {t : Tp} : part true q t = .ok none t := rfl
theorem part_f {q : Tp → Res PyData} {t : Tp} : part false q t = (q t).bind fun x t => lift ((asInt x).map some) t := rfl
theorem test_t {q : Tp → Res PyData} {t : Tp} : test true q t = .ok true t := rfl
theorem test_f {q : Tp → Res PyData} {t : Tp} : test false q t = (q t).bind fun x t => lift (truthD x) t := rfl
theorem as_i {i : Int} : asInt (.int i) = some i := rfl
theorem wk_l {xs : List PyData} (h : xs.length ≤ line) : walkD (.list xs) = some xs := if_pos h
theorem wk_t {xs : List PyData} (h : xs.length ≤ line) : walkD (.tuple xs) = some xs := if_pos h
theorem se_map {α : Type} {x : α} {P : α → Prop} : (∃ a, x = a ∧ P a) = P x := propext ⟨fun ⟨a, e, h⟩ => by cases e; exact h, fun h => ⟨x, rfl, h⟩⟩
theorem bi_max3 {i j k : Int} : biD .max [.int i, .int j, .int k] = some (.int (if k > (if j > i then j else i) then k else if j > i then j else i)) := rfl
theorem bi_max2 {i j : Int} : biD .max [.int i, .int j] = some (.int (if j > i then j else i)) := rfl
theorem bi_min2 {i j : Int} : biD .min [.int i, .int j] = some (.int (if j < i then j else i)) := rfl
theorem bi_abs {i : Int} : biD .abs [.int i] = some (.int (if i < 0 then -i else i)) := rfl
theorem bi_bool {b : Bool} : biD .bool [.bool b] = some (.bool b) := rfl
theorem cm_mem {x y : PyData} : cmpD .mem x y = memD x y := rfl
theorem cm_nmem {x y : PyData} : cmpD .nmem x y = (memD x y).map (!·) := rfl
theorem own_eq {r : Ev.Env} {fl : List Bool} {t : Tp} {i : Nat} : own ⟨r, fl, t⟩ i = match fl[i]?, getV r i with
  | some true, some (.d x) => some x
  | _, _ => none := rfl
theorem fl_0 {b : Bool} {fl : List Bool} : (b :: fl)[0]? = some b := rfl
theorem fl_s {b : Bool} {fl : List Bool} {n : Nat} : (b :: fl)[n + 1]? = fl[n]? := rfl
theorem setD_eq {s : Stt} {i : Nat} {x : PyData} : setD s i x = s.r.set i (some (.d x)) := rfl
theorem bd_exc {α β : Type} {c : Nat} {p : List PyData} {t : Tp} {f : α → Tp → Res β} : (Res.exc c p t : Res α).bind f = .exc c p t := rfl
theorem shut_cons {o : Option Vl} {r : Ev.Env} : shut (o :: r) = (match o with | some (.d x) => some x | _ => none) :: shut r := rfl
theorem shut_nil : shut [] = [] := rfl
theorem lfz_len {fl : List Bool} {is : List Nat} : (fz fl is).length = fl.length := by
  induction is generalizing fl with
  | nil => rfl
  | cons i r ih => show (fz (fl.set i false) r).length = _; rw [ih, List.length_set]
theorem lfzx_len {x : PyData} {e : Ex} {fl : List Bool} : (fzx x e fl).length = fl.length := by
  unfold fzx
  split
  · exact lfz_len
  · rfl
theorem fx_nil {x : PyData} {e : Ex} {fl : List Bool} (h : retE e = []) : fzx x e fl = fl := by
  unfold fzx
  rw [h]
  split <;> rfl
theorem line_n : line = 16777216 := rfl
theorem lfz_app {fl : List Bool} {a b : List Nat} : fz fl (a ++ b) = fz (fz fl a) b := by
  induction a generalizing fl with
  | nil => rfl
  | cons i r ih => exact ih
theorem lfz_get {is : List Nat} : ∀ {fl : List Bool} {j : Nat}, (fz fl is)[j]? = if j ∈ is then fl[j]?.map (fun _ => false) else fl[j]? := by
  induction is with
  | nil => intro fl j; rw [if_neg (by simp)]; rfl
  | cons i r ih =>
    intro fl j
    show (fz (fl.set i false) r)[j]? = _
    rw [ih, List.getElem?_set]
    by_cases h : j = i
    · subst h
      rw [if_pos List.mem_cons_self]
      by_cases hl : j < fl.length
      · simp [hl]
      · simp [hl]
    · have h' : ¬ i = j := fun e => h e.symm
      rw [if_neg h']
      by_cases m : j ∈ r
      · rw [if_pos m, if_pos (List.mem_cons_of_mem _ m)]
      · rw [if_neg m, if_neg (fun z => (List.mem_cons.mp z).elim h m)]
theorem lfz_rg {fl : List Bool} (h : fl.length ≤ 200) : fz fl (List.range 200) = List.replicate fl.length false := by
  refine List.ext_getElem? fun j => ?_
  rw [lfz_get, List.getElem?_replicate]
  by_cases hl : j < fl.length
  · rw [if_pos (List.mem_range.mpr (by omega)), if_pos hl, List.getElem?_eq_getElem hl]
    rfl
  · rw [if_neg hl, List.getElem?_eq_none (by omega)]
    split <;> rfl
theorem fr_1 {a0 : Bool} : fz [a0] (List.range 200) = [false] := lfz_rg (Nat.le_of_ble_eq_true rfl)
theorem fr_2 {a0 a1 : Bool} : fz [a0, a1] (List.range 200) = [false, false] := lfz_rg (Nat.le_of_ble_eq_true rfl)
theorem fr_3 {a0 a1 a2 : Bool} : fz [a0, a1, a2] (List.range 200) = [false, false, false] := lfz_rg (Nat.le_of_ble_eq_true rfl)
theorem fr_4 {a0 a1 a2 a3 : Bool} : fz [a0, a1, a2, a3] (List.range 200) = [false, false, false, false] := lfz_rg (Nat.le_of_ble_eq_true rfl)
theorem fr_5 {a0 a1 a2 a3 a4 : Bool} : fz [a0, a1, a2, a3, a4] (List.range 200) = [false, false, false, false, false] := lfz_rg (Nat.le_of_ble_eq_true rfl)
theorem fr_6 {a0 a1 a2 a3 a4 a5 : Bool} : fz [a0, a1, a2, a3, a4, a5] (List.range 200) = [false, false, false, false, false, false] := lfz_rg (Nat.le_of_ble_eq_true rfl)
theorem fr_7 {a0 a1 a2 a3 a4 a5 a6 : Bool} : fz [a0, a1, a2, a3, a4, a5, a6] (List.range 200) = [false, false, false, false, false, false, false] := lfz_rg (Nat.le_of_ble_eq_true rfl)
theorem fr_8 {a0 a1 a2 a3 a4 a5 a6 a7 : Bool} : fz [a0, a1, a2, a3, a4, a5, a6, a7] (List.range 200) = [false, false, false, false, false, false, false, false] := lfz_rg (Nat.le_of_ble_eq_true rfl)
theorem fr_9 {a0 a1 a2 a3 a4 a5 a6 a7 a8 : Bool} : fz [a0, a1, a2, a3, a4, a5, a6, a7, a8] (List.range 200) = [false, false, false, false, false, false, false, false, false] := lfz_rg (Nat.le_of_ble_eq_true rfl)
theorem fr_10 {a0 a1 a2 a3 a4 a5 a6 a7 a8 a9 : Bool} : fz [a0, a1, a2, a3, a4, a5, a6, a7, a8, a9] (List.range 200) = [false, false, false, false, false, false, false, false, false, false] := lfz_rg (Nat.le_of_ble_eq_true rfl)
theorem fr_11 {a0 a1 a2 a3 a4 a5 a6 a7 a8 a9 a10 : Bool} : fz [a0, a1, a2, a3, a4, a5, a6, a7, a8, a9, a10] (List.range 200) = [false, false, false, false, false, false, false, false, false, false, false] := lfz_rg (Nat.le_of_ble_eq_true rfl)
theorem fr_12 {a0 a1 a2 a3 a4 a5 a6 a7 a8 a9 a10 a11 : Bool} : fz [a0, a1, a2, a3, a4, a5, a6, a7, a8, a9, a10, a11] (List.range 200) = [false, false, false, false, false, false, false, false, false, false, false, false] := lfz_rg (Nat.le_of_ble_eq_true rfl)
theorem fr_13 {a0 a1 a2 a3 a4 a5 a6 a7 a8 a9 a10 a11 a12 : Bool} : fz [a0, a1, a2, a3, a4, a5, a6, a7, a8, a9, a10, a11, a12] (List.range 200) = [false, false, false, false, false, false, false, false, false, false, false, false, false] := lfz_rg (Nat.le_of_ble_eq_true rfl)
theorem fr_14 {a0 a1 a2 a3 a4 a5 a6 a7 a8 a9 a10 a11 a12 a13 : Bool} : fz [a0, a1, a2, a3, a4, a5, a6, a7, a8, a9, a10, a11, a12, a13] (List.range 200) = [false, false, false, false, false, false, false, false, false, false, false, false, false, false] := lfz_rg (Nat.le_of_ble_eq_true rfl)
theorem fr_15 {a0 a1 a2 a3 a4 a5 a6 a7 a8 a9 a10 a11 a12 a13 a14 : Bool} : fz [a0, a1, a2, a3, a4, a5, a6, a7, a8, a9, a10, a11, a12, a13, a14] (List.range 200) = [false, false, false, false, false, false, false, false, false, false, false, false, false, false, false] := lfz_rg (Nat.le_of_ble_eq_true rfl)
theorem fr_16 {a0 a1 a2 a3 a4 a5 a6 a7 a8 a9 a10 a11 a12 a13 a14 a15 : Bool} : fz [a0, a1, a2, a3, a4, a5, a6, a7, a8, a9, a10, a11, a12, a13, a14, a15] (List.range 200) = [false, false, false, false, false, false, false, false, false, false, false, false, false, false, false, false] := lfz_rg (Nat.le_of_ble_eq_true rfl)
theorem gd_0 {x d : Bool} {r : List Bool} : (x :: r).getD 0 d = x := rfl
theorem gd_s {x d : Bool} {r : List Bool} {n : Nat} : (x :: r).getD (n + 1) d = r.getD n d := rfl
theorem cb_eq {a b : Bool} : cmpD .eq (.bool a) (.bool b) = some (decide (a = b)) := by cases a <;> cases b <;> rfl
theorem cb_ne {a b : Bool} : cmpD .ne (.bool a) (.bool b) = some (decide (a ≠ b)) := by cases a <;> cases b <;> rfl
theorem fx_i {i : Int} {e : Ex} {fl : List Bool} : fzx (.int i) e fl = fl := rfl
theorem fx_b {i : Bool} {e : Ex} {fl : List Bool} : fzx (.bool i) e fl = fl := rfl
theorem fx_s {i : Str} {e : Ex} {fl : List Bool} : fzx (.str i) e fl = fl := rfl
theorem fx_n {e : Ex} {fl : List Bool} : fzx .none e fl = fl := rfl
theorem fx_l {xs : List PyData} {e : Ex} {fl : List Bool} : fzx (.list xs) e fl = fz fl (retE e) := rfl
theorem fx_t {xs : List PyData} {e : Ex} {fl : List Bool} : fzx (.tuple xs) e fl = fz fl (retE e) := rfl
theorem fx_d {xs : List (PyData × PyData)} {e : Ex} {fl : List Bool} : fzx (.dict xs) e fl = fz fl (retE e) := rfl
theorem mu_i {i : Int} : isMut (.int i) = false := rfl
theorem mu_b {i : Bool} : isMut (.bool i) = false := rfl
theorem mu_s {i : Str} : isMut (.str i) = false := rfl
theorem mu_n : isMut .none = false := rfl
theorem mu_t {i : List PyData} : isMut (.tuple i) = false := rfl
theorem mu_l {i : List PyData} : isMut (.list i) = true := rfl
theorem mu_d {i : List (PyData × PyData)} : isMut (.dict i) = true := rfl
theorem co_i {i : Int} : isCont (.int i) = false := rfl
theorem co_b {i : Bool} : isCont (.bool i) = false := rfl
theorem co_s {i : Str} : isCont (.str i) = false := rfl
theorem co_n : isCont .none = false := rfl
theorem co_t {i : List PyData} : isCont (.tuple i) = true := rfl
theorem co_l {i : List PyData} : isCont (.list i) = true := rfl
theorem co_d {i : List (PyData × PyData)} : isCont (.dict i) = true := rfl
theorem se_0 {α : Type} {x v : α} {r : List α} : (x :: r).set 0 v = v :: r := rfl
theorem se_s {α : Type} {x v : α} {r : List α} {n : Nat} : (x :: r).set (n + 1) v = x :: r.set n v := rfl
/-! ### the tape -/
def TW (t : Tp) : Prop := ∃ (cs : List Int) (p l m c : Int), t = some [.list (cs.map .int), .int p, .int l, .int m, .int c] ∧ 0 ≤ p
def PickOk (g : Gm) (k : Nat) : Prop := ∀ (n : Int) (t : Tp), 0 < n → n < 2 ^ 1000 → TW t → ∃ i b u, 0 ≤ i ∧ i < n ∧ TW u ∧ g.cl k [.tp, .d (.int n)] t = .ok (.int i, b) u
end Ev

set_option Elab.async false
set_option autoImplicit false
set_option linter.all false
set_option maxRecDepth 100000
set_option maxHeartbeats 2000000
/-! The drawing of a number. -/
namespace Ev
open PySem L2
local macro_rules | `(tactic| walk_at "ev") => `(tactic| ((try simp only [WO_seq, WO_set, WO_ret, WO_ife, WO_exp, WO_forr, WO_nop, WO_retn, WO_par, WO_if, WO_nx, WO_rt, WO_tst, W_bind, W_ok, W_some, W_none, W_lift, W_if, W_quiet, vs_var, vR_var, vs_non, vR_non, vs_bl, vR_bl, vs_int, vR_int, vs_str, vR_str, vs_glb, vR_glb, vs_scs, vR_scs, vs_tup, vR_tup, vs_lst, vR_lst, vs_dic, vR_dic, vs_bin, vR_bin, vs_neg, vR_neg, vs_not, vR_not, vs_and, vR_and, vs_or, vR_or, vs_cmp, vR_cmp, vs_cm2, vR_cm2, vs_isn, vR_isn, vs_nsn, vR_nsn, vs_ite, vs_idx, vR_idx, vs_tix, vR_tix, vs_sli, vR_sli, vs_rev, vR_rev, vs_call, vs_bi, vR_bi, vs_isi, vR_isi, vs_met, vR_met, vs_comp, vR_comp, vs_dcom, vR_dcom, vs_comp2, vR_comp2, vs_rng, vR_rng, vs_rn3, vR_rn3, vs_enu, vR_enu, vs_zip, vR_zip, vs_vals, vR_vals, vs_its, vR_its, vs_lof, vR_lof, vs_act, vR_act, vs_isx, vR_isx, vs_plc, vR_plc, vs_srt, vR_srt, vs_rv2, vR_rv2, vs_tof, vR_tof, vs_gix, vR_gix, vs_nil, vs_tpv, vs_scv, vs_lam, vR_call, vR_ite, gv_0, gv_s, ix_l0, ix_l1, ix_l2, ix_l3, ix_l4, ix_l5, ix_l6, ix_l7, ix_t0, ix_t1, ix_t2, ix_t3, ix_t4, ix_t5, ix_t6, ix_t7, st_l0, st_l1, st_l2, st_l3, st_l4, tr_b, tr_i, cm_eq, cm_ne, cm_lt, cm_gt, cm_le, cm_ge, bn_add, bn_sub, bi_int, bi_lenl, bi_lent, al_nil, al_cons, fx_i, fx_b, fx_s, fx_n, fx_l, fx_t, fx_d, mu_i, mu_b, mu_s, mu_n, mu_t, mu_l, mu_d, co_i, co_b, co_s, co_n, co_t, co_l, co_d, se_0, se_s, ex_some, Option.map_some, Option.bind_some, Bool.false_eq_true, if_false, if_true, decide_eq_true_eq, Bool.and_false, Bool.false_and, Bool.and_true, Bool.true_and, Bool.or_false, Bool.false_or, Ev.fresh, ownV, bd_ok, lift_some, part_t, part_f, test_t, test_f, as_i, isNil, blank, slotsP, isTy, List.any_cons, List.any_nil, Bool.not_true, Bool.not_false, List.map_cons, List.map_nil, List.cons_append, List.nil_append, List.replicate_succ, List.replicate_zero, Nat.reduceSub, and_self, and_true, true_and, Int.reduceSub, Int.reduceAdd, Int.reduceNeg, Int.reduceMul, Int.reduceLT, Int.reduceLE, decide_true, decide_false, not_true_eq_false, not_false_eq_true, Prod.mk.injEq, bn_mod, bn_fdiv', bn_mull, bn_mulr, bi_max3, bi_max2, bi_min2, bi_abs, bi_bool, cm_mem, cm_nmem, Int.reducePow, WO_app, own_eq, fl_0, fl_s, setD_eq, fz, retE, ev_var, ev_non, ev_bl, ev_int, ev_str, ev_glb, ev_tup, ev_lst, ev_dic, ev_bin, ev_neg, ev_not, ev_and, ev_or, ev_cmp, ev_cm2, ev_isn, ev_nsn, ev_ite, ev_idx, ev_tix, ev_scs, ev_sli, ev_rev, ev_call, ev_isi, ev_met, ev_gix, ev_lof, ev_tof, ev_rv2, ev_act, ev_isx, ev_plc, ev_rng, ev_rn3, ev_enu, ev_zip, ev_vals, ev_its, ev_comp, ev_comp2, ev_dcom, ev_srt, asg_nm, asg_tt, asg_tl, asgs_nil, asgs_cons, ev_bi, fx_nil, WO_stp, fr_1, fr_2, fr_3, fr_4, fr_5, fr_6, fr_7, fr_8, fr_9, fr_10, fr_11, fr_12, fr_13, fr_14, fr_15, fr_16, lfz_app, List.append_nil, WO_aug, WO_trya, WO_tryl, augD, bd_exc, gd_0, gd_s, cb_eq, cb_ne]); repeat (refine Wn_mk ?_; try simp only [WO_seq, WO_set, WO_ret, WO_ife, WO_exp, WO_forr, WO_nop, WO_retn, WO_par, WO_if, WO_nx, WO_rt, WO_tst, W_bind, W_ok, W_some, W_none, W_lift, W_if, W_quiet, vs_var, vR_var, vs_non, vR_non, vs_bl, vR_bl, vs_int, vR_int, vs_str, vR_str, vs_glb, vR_glb, vs_scs, vR_scs, vs_tup, vR_tup, vs_lst, vR_lst, vs_dic, vR_dic, vs_bin, vR_bin, vs_neg, vR_neg, vs_not, vR_not, vs_and, vR_and, vs_or, vR_or, vs_cmp, vR_cmp, vs_cm2, vR_cm2, vs_isn, vR_isn, vs_nsn, vR_nsn, vs_ite, vs_idx, vR_idx, vs_tix, vR_tix, vs_sli, vR_sli, vs_rev, vR_rev, vs_call, vs_bi, vR_bi, vs_isi, vR_isi, vs_met, vR_met, vs_comp, vR_comp, vs_dcom, vR_dcom, vs_comp2, vR_comp2, vs_rng, vR_rng, vs_rn3, vR_rn3, vs_enu, vR_enu, vs_zip, vR_zip, vs_vals, vR_vals, vs_its, vR_its, vs_lof, vR_lof, vs_act, vR_act, vs_isx, vR_isx, vs_plc, vR_plc, vs_srt, vR_srt, vs_rv2, vR_rv2, vs_tof, vR_tof, vs_gix, vR_gix, vs_nil, vs_tpv, vs_scv, vs_lam, vR_call, vR_ite, gv_0, gv_s, ix_l0, ix_l1, ix_l2, ix_l3, ix_l4, ix_l5, ix_l6, ix_l7, ix_t0, ix_t1, ix_t2, ix_t3, ix_t4, ix_t5, ix_t6, ix_t7, st_l0, st_l1, st_l2, st_l3, st_l4, tr_b, tr_i, cm_eq, cm_ne, cm_lt, cm_gt, cm_le, cm_ge, bn_add, bn_sub, bi_int, bi_lenl, bi_lent, al_nil, al_cons, fx_i, fx_b, fx_s, fx_n, fx_l, fx_t, fx_d, mu_i, mu_b, mu_s, mu_n, mu_t, mu_l, mu_d, co_i, co_b, co_s, co_n, co_t, co_l, co_d, se_0, se_s, ex_some, Option.map_some, Option.bind_some, Bool.false_eq_true, if_false, if_true, decide_eq_true_eq, Bool.and_false, Bool.false_and, Bool.and_true, Bool.true_and, Bool.or_false, Bool.false_or, Ev.fresh, ownV, bd_ok, lift_some, part_t, part_f, test_t, test_f, as_i, isNil, blank, slotsP, isTy, List.any_cons, List.any_nil, Bool.not_true, Bool.not_false, List.map_cons, List.map_nil, List.cons_append, List.nil_append, List.replicate_succ, List.replicate_zero, Nat.reduceSub, and_self, and_true, true_and, Int.reduceSub, Int.reduceAdd, Int.reduceNeg, Int.reduceMul, Int.reduceLT, Int.reduceLE, decide_true, decide_false, not_true_eq_false, not_false_eq_true, Prod.mk.injEq, bn_mod, bn_fdiv', bn_mull, bn_mulr, bi_max3, bi_max2, bi_min2, bi_abs, bi_bool, cm_mem, cm_nmem, Int.reducePow, WO_app, own_eq, fl_0, fl_s, setD_eq, fz, retE, ev_var, ev_non, ev_bl, ev_int, ev_str, ev_glb, ev_tup, ev_lst, ev_dic, ev_bin, ev_neg, ev_not, ev_and, ev_or, ev_cmp, ev_cm2, ev_isn, ev_nsn, ev_ite, ev_idx, ev_tix, ev_scs, ev_sli, ev_rev, ev_call, ev_isi, ev_met, ev_gix, ev_lof, ev_tof, ev_rv2, ev_act, ev_isx, ev_plc, ev_rng, ev_rn3, ev_enu, ev_zip, ev_vals, ev_its, ev_comp, ev_comp2, ev_dcom, ev_srt, asg_nm, asg_tt, asg_tl, asgs_nil, asgs_cons, ev_bi, fx_nil, WO_stp, fr_1, fr_2, fr_3, fr_4, fr_5, fr_6, fr_7, fr_8, fr_9, fr_10, fr_11, fr_12, fr_13, fr_14, fr_15, fr_16, lfz_app, List.append_nil, WO_aug, WO_trya, WO_tryl, augD, bd_exc, gd_0, gd_s, cb_eq, cb_ne])))
local macro_rules | `(tactic| walk_at "ek") => `(tactic| ((try simp only [*, WO_seq, WO_set, WO_ret, WO_ife, WO_exp, WO_forr, WO_nop, WO_retn, WO_par, WO_if, WO_nx, WO_rt, WO_tst, W_bind, W_ok, W_some, W_none, W_lift, W_if, W_quiet, vs_var, vR_var, vs_non, vR_non, vs_bl, vR_bl, vs_int, vR_int, vs_str, vR_str, vs_glb, vR_glb, vs_scs, vR_scs, vs_tup, vR_tup, vs_lst, vR_lst, vs_dic, vR_dic, vs_bin, vR_bin, vs_neg, vR_neg, vs_not, vR_not, vs_and, vR_and, vs_or, vR_or, vs_cmp, vR_cmp, vs_cm2, vR_cm2, vs_isn, vR_isn, vs_nsn, vR_nsn, vs_ite, vs_idx, vR_idx, vs_tix, vR_tix, vs_sli, vR_sli, vs_rev, vR_rev, vs_call, vs_bi, vR_bi, vs_isi, vR_isi, vs_met, vR_met, vs_comp, vR_comp, vs_dcom, vR_dcom, vs_comp2, vR_comp2, vs_rng, vR_rng, vs_rn3, vR_rn3, vs_enu, vR_enu, vs_zip, vR_zip, vs_vals, vR_vals, vs_its, vR_its, vs_lof, vR_lof, vs_act, vR_act, vs_isx, vR_isx, vs_plc, vR_plc, vs_srt, vR_srt, vs_rv2, vR_rv2, vs_tof, vR_tof, vs_gix, vR_gix, vs_nil, vs_tpv, vs_scv, vs_lam, vR_call, vR_ite, gv_0, gv_s, ix_l0, ix_l1, ix_l2, ix_l3, ix_l4, ix_l5, ix_l6, ix_l7, ix_t0, ix_t1, ix_t2, ix_t3, ix_t4, ix_t5, ix_t6, ix_t7, st_l0, st_l1, st_l2, st_l3, st_l4, tr_b, tr_i, cm_eq, cm_ne, cm_lt, cm_gt, cm_le, cm_ge, bn_add, bn_sub, bi_int, bi_lenl, bi_lent, al_nil, al_cons, fx_i, fx_b, fx_s, fx_n, fx_l, fx_t, fx_d, mu_i, mu_b, mu_s, mu_n, mu_t, mu_l, mu_d, co_i, co_b, co_s, co_n, co_t, co_l, co_d, se_0, se_s, ex_some, Option.map_some, Option.bind_some, Bool.false_eq_true, if_false, if_true, decide_eq_true_eq, Bool.and_false, Bool.false_and, Bool.and_true, Bool.true_and, Bool.or_false, Bool.false_or, Ev.fresh, ownV, bd_ok, lift_some, part_t, part_f, test_t, test_f, as_i, isNil, blank, slotsP, isTy, List.any_cons, List.any_nil, Bool.not_true, Bool.not_false, List.map_cons, List.map_nil, List.cons_append, List.nil_append, List.replicate_succ, List.replicate_zero, Nat.reduceSub, and_self, and_true, true_and, Int.reduceSub, Int.reduceAdd, Int.reduceNeg, Int.reduceMul, Int.reduceLT, Int.reduceLE, decide_true, decide_false, not_true_eq_false, not_false_eq_true, Prod.mk.injEq, bn_mod, bn_fdiv', bn_mull, bn_mulr, bi_max3, bi_max2, bi_min2, bi_abs, bi_bool, cm_mem, cm_nmem, Int.reducePow, WO_app, own_eq, fl_0, fl_s, setD_eq, fz, retE, ev_var, ev_non, ev_bl, ev_int, ev_str, ev_glb, ev_tup, ev_lst, ev_dic, ev_bin, ev_neg, ev_not, ev_and, ev_or, ev_cmp, ev_cm2, ev_isn, ev_nsn, ev_ite, ev_idx, ev_tix, ev_scs, ev_sli, ev_rev, ev_call, ev_isi, ev_met, ev_gix, ev_lof, ev_tof, ev_rv2, ev_act, ev_isx, ev_plc, ev_rng, ev_rn3, ev_enu, ev_zip, ev_vals, ev_its, ev_comp, ev_comp2, ev_dcom, ev_srt, asg_nm, asg_tt, asg_tl, asgs_nil, asgs_cons, ev_bi, fx_nil, WO_stp, fr_1, fr_2, fr_3, fr_4, fr_5, fr_6, fr_7, fr_8, fr_9, fr_10, fr_11, fr_12, fr_13, fr_14, fr_15, fr_16, lfz_app, List.append_nil, WO_aug, WO_trya, WO_tryl, augD, bd_exc, gd_0, gd_s, cb_eq, cb_ne]); repeat (refine Wn_mk ?_; try simp only [*, WO_seq, WO_set, WO_ret, WO_ife, WO_exp, WO_forr, WO_nop, WO_retn, WO_par, WO_if, WO_nx, WO_rt, WO_tst, W_bind, W_ok, W_some, W_none, W_lift, W_if, W_quiet, vs_var, vR_var, vs_non, vR_non, vs_bl, vR_bl, vs_int, vR_int, vs_str, vR_str, vs_glb, vR_glb, vs_scs, vR_scs, vs_tup, vR_tup, vs_lst, vR_lst, vs_dic, vR_dic, vs_bin, vR_bin, vs_neg, vR_neg, vs_not, vR_not, vs_and, vR_and, vs_or, vR_or, vs_cmp, vR_cmp, vs_cm2, vR_cm2, vs_isn, vR_isn, vs_nsn, vR_nsn, vs_ite, vs_idx, vR_idx, vs_tix, vR_tix, vs_sli, vR_sli, vs_rev, vR_rev, vs_call, vs_bi, vR_bi, vs_isi, vR_isi, vs_met, vR_met, vs_comp, vR_comp, vs_dcom, vR_dcom, vs_comp2, vR_comp2, vs_rng, vR_rng, vs_rn3, vR_rn3, vs_enu, vR_enu, vs_zip, vR_zip, vs_vals, vR_vals, vs_its, vR_its, vs_lof, vR_lof, vs_act, vR_act, vs_isx, vR_isx, vs_plc, vR_plc, vs_srt, vR_srt, vs_rv2, vR_rv2, vs_tof, vR_tof, vs_gix, vR_gix, vs_nil, vs_tpv, vs_scv, vs_lam, vR_call, vR_ite, gv_0, gv_s, ix_l0, ix_l1, ix_l2, ix_l3, ix_l4, ix_l5, ix_l6, ix_l7, ix_t0, ix_t1, ix_t2, ix_t3, ix_t4, ix_t5, ix_t6, ix_t7, st_l0, st_l1, st_l2, st_l3, st_l4, tr_b, tr_i, cm_eq, cm_ne, cm_lt, cm_gt, cm_le, cm_ge, bn_add, bn_sub, bi_int, bi_lenl, bi_lent, al_nil, al_cons, fx_i, fx_b, fx_s, fx_n, fx_l, fx_t, fx_d, mu_i, mu_b, mu_s, mu_n, mu_t, mu_l, mu_d, co_i, co_b, co_s, co_n, co_t, co_l, co_d, se_0, se_s, ex_some, Option.map_some, Option.bind_some, Bool.false_eq_true, if_false, if_true, decide_eq_true_eq, Bool.and_false, Bool.false_and, Bool.and_true, Bool.true_and, Bool.or_false, Bool.false_or, Ev.fresh, ownV, bd_ok, lift_some, part_t, part_f, test_t, test_f, as_i, isNil, blank, slotsP, isTy, List.any_cons, List.any_nil, Bool.not_true, Bool.not_false, List.map_cons, List.map_nil, List.cons_append, List.nil_append, List.replicate_succ, List.replicate_zero, Nat.reduceSub, and_self, and_true, true_and, Int.reduceSub, Int.reduceAdd, Int.reduceNeg, Int.reduceMul, Int.reduceLT, Int.reduceLE, decide_true, decide_false, not_true_eq_false, not_false_eq_true, Prod.mk.injEq, bn_mod, bn_fdiv', bn_mull, bn_mulr, bi_max3, bi_max2, bi_min2, bi_abs, bi_bool, cm_mem, cm_nmem, Int.reducePow, WO_app, own_eq, fl_0, fl_s, setD_eq, fz, retE, ev_var, ev_non, ev_bl, ev_int, ev_str, ev_glb, ev_tup, ev_lst, ev_dic, ev_bin, ev_neg, ev_not, ev_and, ev_or, ev_cmp, ev_cm2, ev_isn, ev_nsn, ev_ite, ev_idx, ev_tix, ev_scs, ev_sli, ev_rev, ev_call, ev_isi, ev_met, ev_gix, ev_lof, ev_tof, ev_rv2, ev_act, ev_isx, ev_plc, ev_rng, ev_rn3, ev_enu, ev_zip, ev_vals, ev_its, ev_comp, ev_comp2, ev_dcom, ev_srt, asg_nm, asg_tt, asg_tl, asgs_nil, asgs_cons, ev_bi, fx_nil, WO_stp, fr_1, fr_2, fr_3, fr_4, fr_5, fr_6, fr_7, fr_8, fr_9, fr_10, fr_11, fr_12, fr_13, fr_14, fr_15, fr_16, lfz_app, List.append_nil, WO_aug, WO_trya, WO_tryl, augD, bd_exc, gd_0, gd_s, cb_eq, cb_ne])))
/-- the tail of a draw -/
def pkT (a b m : Int) : St := .seq (.ife (.cmp .gt (.tix 0 (.int 2)) (.int 0)) (.seq (.set (.nm 4) (.bin .mod (.bi .int (.cons (.tix 0 (.int 2)) .nil)) (.var 1)))
  (.seq (.tst 0 (.int 2) (.bin .fdiv (.tix 0 (.int 2)) (.var 1)))
  (.ret (.var 4)))) .nop)
  (.seq (.tst 0 (.int 4) (.bin .add (.tix 0 (.int 4)) (.int 1)))
  (.seq (.set (.nm 2) (.bin .mod (.bi .int (.cons (.bin .mul (.bi .int (.cons (.bin .add (.tix 0 (.int 3)) (.bin .mul (.int 7919) (.tix 0 (.int 4)))) .nil)) (.int a)) .nil)) (.int 2147483647)))
  (.seq (.set (.nm 2) (.bin .mod (.bi .int (.cons (.bin .mul (.var 2) (.bin .add (.bin .fdiv (.var 2) (.int 1009)) (.int 69621))) .nil)) (.int 2147483647)))
  (.seq (.set (.nm 2) (.bin .mod (.bi .int (.cons (.bin .mul (.var 2) (.bin .add (.bin .fdiv (.var 2) (.int 2003)) (.int b))) .nil)) (.int m)))
  (.ret (.bin .mod (.bi .int (.cons (.bin .fdiv (.var 2) (.int 16)) .nil)) (.var 1)))))))
def pk (X : Ex) (k a b m : Int) : St := .seq (.ife (.and (.cmp .eq (.tix 0 (.int 2)) (.int 0)) (.cmp .lt (.tix 0 (.int 1)) (.bi .len (.cons (.tix 0 (.int 0)) .nil)))) (.seq (.set (.nm 3) (.idx (.tix 0 (.int 0)) (.tix 0 (.int 1))))
  (.seq (.tst 0 (.int 1) (.bin .add (.tix 0 (.int 1)) (.int 1)))
  (.seq (.tst 0 (.int 3) (.bin .mod (.bi .int (.cons (.bin .add (.bin .add (.bin .mul (.tix 0 (.int 3)) (.int 69621)) X) (.int k)) .nil)) (.int 2147483629)))
  (.ife (.cmp .ge (.var 3) (.bin .pow (.int 10) (.int 18))) (.tst 0 (.int 2) (.var 3)) .nop)))) .nop)
  (pkT a b m)
def sm (a : Int) : Prop := -(2 ^ 64) < a ∧ a < 2 ^ 64
theorem pkT_ok {a b m : Int} (ha : sm a) (hb : 0 ≤ b ∧ b < 2 ^ 32) (hm : 0 < m ∧ m < 2 ^ 63) (g : Gm) (n : Int) (cs : List Int) (p l mx c : Int) (z y w : Option Vl) (h : 0 < n) (hn : n.natAbs < 2 ^ 2000) (hp : 0 ≤ p) :
    WO (evS g (pkT a b m) ⟨[some .tp, some (.d (.int n)), w, z, y], [false, false, false, false, false], some [.list (cs.map .int), .int p, .int l, .int mx, .int c]⟩) (fun _ => False) (fun x _ t => TW t ∧ ∃ i, x = .int i ∧ 0 ≤ i ∧ i < n) := by
  unfold pkT
  have e1 : ∀ x : Int, binD .mod (.int x) (.int n) = some (.int (x % n)) := fun x => bn_mod h
  have e2 : ∀ x : Int, binD .fdiv (.int x) (.int n) = some (.int (x / n)) := fun x => bn_fdiv h hn
  have e3 : ∀ x : Int, binD .mul (.int 7919) (.int x) = some (.int (7919 * x)) := fun x => bn_mull (by decide)
  have e4 : ∀ x : Int, binD .mul (.int x) (.int a) = some (.int (x * a)) := fun x => bn_mulr ha
  have e5 : ∀ x : Int, binD .mod (.int x) (.int 2147483647) = some (.int (x % 2147483647)) := fun x => bn_mod (by decide)
  have e6 : ∀ x : Int, binD .mod (.int x) (.int m) = some (.int (x % m)) := fun x => bn_mod hm.1
  have e7 : ∀ x : Int, binD .fdiv (.int x) (.int 1009) = some (.int (x / 1009)) := fun x => bn_fdiv (by decide) (by decide)
  have e8 : ∀ x : Int, binD .fdiv (.int x) (.int 2003) = some (.int (x / 2003)) := fun x => bn_fdiv (by decide) (by decide)
  have e9 : ∀ x : Int, binD .fdiv (.int x) (.int 16) = some (.int (x / 16)) := fun x => bn_fdiv (by decide) (by decide)
  have e10 : ∀ x y : Int, binD .mul (.int (x % 2147483647)) (.int y) = some (.int (x % 2147483647 * y)) := fun x y => bn_mull (by constructor <;> omega)
  have fin : ∀ x : Int, 0 ≤ x % n ∧ x % n < n := fun x => ⟨Int.emod_nonneg _ (by omega), Int.emod_lt_of_pos _ h⟩
  by_cases hl : 0 < l
  · walk_at "ek"
    exact ⟨⟨cs, p, _, _, _, rfl, hp⟩, _, rfl, fin _⟩
  · walk_at "ek"
    exact ⟨⟨cs, p, _, _, _, rfl, hp⟩, _, rfl, fin _⟩
theorem atI_map {cs : List Int} {p : Int} (h0 : 0 ≤ p) (h1 : p < cs.length) : ∃ c, idxD (.list (cs.map .int)) (.int p) = some (.int c) := by
  have e : ixN (cs.map PyData.int).length p = some p.toNat := by
    unfold ixN
    rw [if_pos h0, if_pos (by rw [List.length_map]; exact h1)]
  refine ⟨cs[p.toNat]'(by omega), ?_⟩
  show (ixN _ _).bind _ = _
  rw [e]
  show (cs.map PyData.int)[p.toNat]? = _
  rw [List.getElem?_map, List.getElem?_eq_getElem (by omega)]
  rfl
theorem pk_ok {X : Ex} {k a b m : Int} (ha : sm a) (hb : 0 ≤ b ∧ b < 2 ^ 32) (hm : 0 < m ∧ m < 2 ^ 63) (g : Gm) (hX : ∀ (r : Ev.Env) (t : Tp) (c : Int), getV r 3 = some (.d (.int c)) → ∃ z, ev g X r t = .ok (.int z) t) (n : Int) (t : Tp) (h : 0 < n) (hn : n.natAbs < 2 ^ 2000) (ht : TW t) :
    WO (evS g (pk X k a b m) ⟨[some .tp, some (.d (.int n)), none, none, none], [false, false, false, false, false], t⟩) (fun _ => False) (fun x _ t => TW t ∧ ∃ i, x = .int i ∧ 0 ≤ i ∧ i < n) := by
  obtain ⟨cs, p, l, mx, c, rfl, hp⟩ := ht
  unfold pk
  rw [WO_seq]
  have e1 : ∀ x : Int, binD .mod (.int x) (.int 2147483629) = some (.int (x % 2147483629)) := fun x => bn_mod (by decide)
  have e2 : ∀ x : Int, binD .mul (.int x) (.int 69621) = some (.int (x * 69621)) := fun x => bn_mulr (by decide)
  have e3 : ∃ q, binD .pow (.int 10) (.int 18) = some (.int q) := ⟨10 ^ 18, rfl⟩
  obtain ⟨q, e3⟩ := e3
  have st : ∀ {x : PyData} {P : PyData → Prop}, P x → ∃ a, some x = some a ∧ P a := fun {x P} h => ⟨x, rfl, h⟩
  have sb : ∀ {x : Bool} {P : Bool → Prop}, P x → ∃ a, some x = some a ∧ P a := fun {x P} h => ⟨x, rfl, h⟩
  walk_at "ev"
  by_cases hl : l = 0 ∧ p < cs.length
  · obtain ⟨rfl, hlt⟩ := hl
    obtain ⟨cell, e4⟩ := atI_map (cs := cs) hp hlt
    obtain ⟨z, e5⟩ := hX [some .tp, some (.d (.int n)), none, some (.d (.int cell)), none] (some [.list (cs.map .int), .int (p + 1), .int 0, .int mx, .int c]) cell rfl
    rw [if_pos rfl, if_pos (by rw [List.length_map]; exact hlt)]
    walk_at "ek"
    split
    · refine Wn_mk ?_
      exact pkT_ok ha hb hm g n cs (p + 1) _ _ _ _ _ _ h hn (by omega)
    · refine Wn_mk ?_
      exact pkT_ok ha hb hm g n cs (p + 1) _ _ _ _ _ _ h hn (by omega)
  · have : ¬ (l = 0 ∧ p < (cs.map PyData.int).length) := by rw [List.length_map]; exact hl
    by_cases h1 : l = 0
    · rw [if_pos h1, if_neg (fun q => this ⟨h1, q⟩)]
      refine Wn_mk ?_
      exact pkT_ok ha hb hm g n cs p _ _ _ _ _ _ h hn hp
    · rw [if_neg h1, if_neg h1]
      refine Wn_mk ?_
      exact pkT_ok ha hb hm g n cs p _ _ _ _ _ _ h hn hp
end Ev

set_option Elab.async false
set_option autoImplicit false
set_option linter.all false
set_option maxRecDepth 100000
set_option maxHeartbeats 2000000
/-! Tables, by the kernel; a def's call; the tape, any of some. -/
namespace Ev
open PySem L2
local macro_rules | `(tactic| walk_at "ev") => `(tactic| ((try simp only [WO_seq, WO_set, WO_ret, WO_ife, WO_exp, WO_forr, WO_nop, WO_retn, WO_par, WO_if, WO_nx, WO_rt, WO_tst, W_bind, W_ok, W_some, W_none, W_lift, W_if, W_quiet, vs_var, vR_var, vs_non, vR_non, vs_bl, vR_bl, vs_int, vR_int, vs_str, vR_str, vs_glb, vR_glb, vs_scs, vR_scs, vs_tup, vR_tup, vs_lst, vR_lst, vs_dic, vR_dic, vs_bin, vR_bin, vs_neg, vR_neg, vs_not, vR_not, vs_and, vR_and, vs_or, vR_or, vs_cmp, vR_cmp, vs_cm2, vR_cm2, vs_isn, vR_isn, vs_nsn, vR_nsn, vs_ite, vs_idx, vR_idx, vs_tix, vR_tix, vs_sli, vR_sli, vs_rev, vR_rev, vs_call, vs_bi, vR_bi, vs_isi, vR_isi, vs_met, vR_met, vs_comp, vR_comp, vs_dcom, vR_dcom, vs_comp2, vR_comp2, vs_rng, vR_rng, vs_rn3, vR_rn3, vs_enu, vR_enu, vs_zip, vR_zip, vs_vals, vR_vals, vs_its, vR_its, vs_lof, vR_lof, vs_act, vR_act, vs_isx, vR_isx, vs_plc, vR_plc, vs_srt, vR_srt, vs_rv2, vR_rv2, vs_tof, vR_tof, vs_gix, vR_gix, vs_nil, vs_tpv, vs_scv, vs_lam, vR_call, vR_ite, gv_0, gv_s, ix_l0, ix_l1, ix_l2, ix_l3, ix_l4, ix_l5, ix_l6, ix_l7, ix_t0, ix_t1, ix_t2, ix_t3, ix_t4, ix_t5, ix_t6, ix_t7, st_l0, st_l1, st_l2, st_l3, st_l4, tr_b, tr_i, cm_eq, cm_ne, cm_lt, cm_gt, cm_le, cm_ge, bn_add, bn_sub, bi_int, bi_lenl, bi_lent, al_nil, al_cons, fx_i, fx_b, fx_s, fx_n, fx_l, fx_t, fx_d, mu_i, mu_b, mu_s, mu_n, mu_t, mu_l, mu_d, co_i, co_b, co_s, co_n, co_t, co_l, co_d, se_0, se_s, ex_some, Option.map_some, Option.bind_some, Bool.false_eq_true, if_false, if_true, decide_eq_true_eq, Bool.and_false, Bool.false_and, Bool.and_true, Bool.true_and, Bool.or_false, Bool.false_or, Ev.fresh, ownV, bd_ok, lift_some, part_t, part_f, test_t, test_f, as_i, isNil, blank, slotsP, isTy, List.any_cons, List.any_nil, Bool.not_true, Bool.not_false, List.map_cons, List.map_nil, List.cons_append, List.nil_append, List.replicate_succ, List.replicate_zero, Nat.reduceSub, and_self, and_true, true_and, Int.reduceSub, Int.reduceAdd, Int.reduceNeg, Int.reduceMul, Int.reduceLT, Int.reduceLE, decide_true, decide_false, not_true_eq_false, not_false_eq_true, Prod.mk.injEq, bn_mod, bn_fdiv', bn_mull, bn_mulr, bi_max3, bi_max2, bi_min2, bi_abs, bi_bool, cm_mem, cm_nmem, Int.reducePow, WO_app, own_eq, fl_0, fl_s, setD_eq, fz, retE, ev_var, ev_non, ev_bl, ev_int, ev_str, ev_glb, ev_tup, ev_lst, ev_dic, ev_bin, ev_neg, ev_not, ev_and, ev_or, ev_cmp, ev_cm2, ev_isn, ev_nsn, ev_ite, ev_idx, ev_tix, ev_scs, ev_sli, ev_rev, ev_call, ev_isi, ev_met, ev_gix, ev_lof, ev_tof, ev_rv2, ev_act, ev_isx, ev_plc, ev_rng, ev_rn3, ev_enu, ev_zip, ev_vals, ev_its, ev_comp, ev_comp2, ev_dcom, ev_srt, asg_nm, asg_tt, asg_tl, asgs_nil, asgs_cons, ev_bi, fx_nil, WO_stp, fr_1, fr_2, fr_3, fr_4, fr_5, fr_6, fr_7, fr_8, fr_9, fr_10, fr_11, fr_12, fr_13, fr_14, fr_15, fr_16, lfz_app, List.append_nil, WO_aug, WO_trya, WO_tryl, augD, bd_exc, gd_0, gd_s, cb_eq, cb_ne]); repeat (refine Wn_mk ?_; try simp only [WO_seq, WO_set, WO_ret, WO_ife, WO_exp, WO_forr, WO_nop, WO_retn, WO_par, WO_if, WO_nx, WO_rt, WO_tst, W_bind, W_ok, W_some, W_none, W_lift, W_if, W_quiet, vs_var, vR_var, vs_non, vR_non, vs_bl, vR_bl, vs_int, vR_int, vs_str, vR_str, vs_glb, vR_glb, vs_scs, vR_scs, vs_tup, vR_tup, vs_lst, vR_lst, vs_dic, vR_dic, vs_bin, vR_bin, vs_neg, vR_neg, vs_not, vR_not, vs_and, vR_and, vs_or, vR_or, vs_cmp, vR_cmp, vs_cm2, vR_cm2, vs_isn, vR_isn, vs_nsn, vR_nsn, vs_ite, vs_idx, vR_idx, vs_tix, vR_tix, vs_sli, vR_sli, vs_rev, vR_rev, vs_call, vs_bi, vR_bi, vs_isi, vR_isi, vs_met, vR_met, vs_comp, vR_comp, vs_dcom, vR_dcom, vs_comp2, vR_comp2, vs_rng, vR_rng, vs_rn3, vR_rn3, vs_enu, vR_enu, vs_zip, vR_zip, vs_vals, vR_vals, vs_its, vR_its, vs_lof, vR_lof, vs_act, vR_act, vs_isx, vR_isx, vs_plc, vR_plc, vs_srt, vR_srt, vs_rv2, vR_rv2, vs_tof, vR_tof, vs_gix, vR_gix, vs_nil, vs_tpv, vs_scv, vs_lam, vR_call, vR_ite, gv_0, gv_s, ix_l0, ix_l1, ix_l2, ix_l3, ix_l4, ix_l5, ix_l6, ix_l7, ix_t0, ix_t1, ix_t2, ix_t3, ix_t4, ix_t5, ix_t6, ix_t7, st_l0, st_l1, st_l2, st_l3, st_l4, tr_b, tr_i, cm_eq, cm_ne, cm_lt, cm_gt, cm_le, cm_ge, bn_add, bn_sub, bi_int, bi_lenl, bi_lent, al_nil, al_cons, fx_i, fx_b, fx_s, fx_n, fx_l, fx_t, fx_d, mu_i, mu_b, mu_s, mu_n, mu_t, mu_l, mu_d, co_i, co_b, co_s, co_n, co_t, co_l, co_d, se_0, se_s, ex_some, Option.map_some, Option.bind_some, Bool.false_eq_true, if_false, if_true, decide_eq_true_eq, Bool.and_false, Bool.false_and, Bool.and_true, Bool.true_and, Bool.or_false, Bool.false_or, Ev.fresh, ownV, bd_ok, lift_some, part_t, part_f, test_t, test_f, as_i, isNil, blank, slotsP, isTy, List.any_cons, List.any_nil, Bool.not_true, Bool.not_false, List.map_cons, List.map_nil, List.cons_append, List.nil_append, List.replicate_succ, List.replicate_zero, Nat.reduceSub, and_self, and_true, true_and, Int.reduceSub, Int.reduceAdd, Int.reduceNeg, Int.reduceMul, Int.reduceLT, Int.reduceLE, decide_true, decide_false, not_true_eq_false, not_false_eq_true, Prod.mk.injEq, bn_mod, bn_fdiv', bn_mull, bn_mulr, bi_max3, bi_max2, bi_min2, bi_abs, bi_bool, cm_mem, cm_nmem, Int.reducePow, WO_app, own_eq, fl_0, fl_s, setD_eq, fz, retE, ev_var, ev_non, ev_bl, ev_int, ev_str, ev_glb, ev_tup, ev_lst, ev_dic, ev_bin, ev_neg, ev_not, ev_and, ev_or, ev_cmp, ev_cm2, ev_isn, ev_nsn, ev_ite, ev_idx, ev_tix, ev_scs, ev_sli, ev_rev, ev_call, ev_isi, ev_met, ev_gix, ev_lof, ev_tof, ev_rv2, ev_act, ev_isx, ev_plc, ev_rng, ev_rn3, ev_enu, ev_zip, ev_vals, ev_its, ev_comp, ev_comp2, ev_dcom, ev_srt, asg_nm, asg_tt, asg_tl, asgs_nil, asgs_cons, ev_bi, fx_nil, WO_stp, fr_1, fr_2, fr_3, fr_4, fr_5, fr_6, fr_7, fr_8, fr_9, fr_10, fr_11, fr_12, fr_13, fr_14, fr_15, fr_16, lfz_app, List.append_nil, WO_aug, WO_trya, WO_tryl, augD, bd_exc, gd_0, gd_s, cb_eq, cb_ne])))
local macro_rules | `(tactic| walk_at "ek") => `(tactic| ((try simp only [*, WO_seq, WO_set, WO_ret, WO_ife, WO_exp, WO_forr, WO_nop, WO_retn, WO_par, WO_if, WO_nx, WO_rt, WO_tst, W_bind, W_ok, W_some, W_none, W_lift, W_if, W_quiet, vs_var, vR_var, vs_non, vR_non, vs_bl, vR_bl, vs_int, vR_int, vs_str, vR_str, vs_glb, vR_glb, vs_scs, vR_scs, vs_tup, vR_tup, vs_lst, vR_lst, vs_dic, vR_dic, vs_bin, vR_bin, vs_neg, vR_neg, vs_not, vR_not, vs_and, vR_and, vs_or, vR_or, vs_cmp, vR_cmp, vs_cm2, vR_cm2, vs_isn, vR_isn, vs_nsn, vR_nsn, vs_ite, vs_idx, vR_idx, vs_tix, vR_tix, vs_sli, vR_sli, vs_rev, vR_rev, vs_call, vs_bi, vR_bi, vs_isi, vR_isi, vs_met, vR_met, vs_comp, vR_comp, vs_dcom, vR_dcom, vs_comp2, vR_comp2, vs_rng, vR_rng, vs_rn3, vR_rn3, vs_enu, vR_enu, vs_zip, vR_zip, vs_vals, vR_vals, vs_its, vR_its, vs_lof, vR_lof, vs_act, vR_act, vs_isx, vR_isx, vs_plc, vR_plc, vs_srt, vR_srt, vs_rv2, vR_rv2, vs_tof, vR_tof, vs_gix, vR_gix, vs_nil, vs_tpv, vs_scv, vs_lam, vR_call, vR_ite, gv_0, gv_s, ix_l0, ix_l1, ix_l2, ix_l3, ix_l4, ix_l5, ix_l6, ix_l7, ix_t0, ix_t1, ix_t2, ix_t3, ix_t4, ix_t5, ix_t6, ix_t7, st_l0, st_l1, st_l2, st_l3, st_l4, tr_b, tr_i, cm_eq, cm_ne, cm_lt, cm_gt, cm_le, cm_ge, bn_add, bn_sub, bi_int, bi_lenl, bi_lent, al_nil, al_cons, fx_i, fx_b, fx_s, fx_n, fx_l, fx_t, fx_d, mu_i, mu_b, mu_s, mu_n, mu_t, mu_l, mu_d, co_i, co_b, co_s, co_n, co_t, co_l, co_d, se_0, se_s, ex_some, Option.map_some, Option.bind_some, Bool.false_eq_true, if_false, if_true, decide_eq_true_eq, Bool.and_false, Bool.false_and, Bool.and_true, Bool.true_and, Bool.or_false, Bool.false_or, Ev.fresh, ownV, bd_ok, lift_some, part_t, part_f, test_t, test_f, as_i, isNil, blank, slotsP, isTy, List.any_cons, List.any_nil, Bool.not_true, Bool.not_false, List.map_cons, List.map_nil, List.cons_append, List.nil_append, List.replicate_succ, List.replicate_zero, Nat.reduceSub, and_self, and_true, true_and, Int.reduceSub, Int.reduceAdd, Int.reduceNeg, Int.reduceMul, Int.reduceLT, Int.reduceLE, decide_true, decide_false, not_true_eq_false, not_false_eq_true, Prod.mk.injEq, bn_mod, bn_fdiv', bn_mull, bn_mulr, bi_max3, bi_max2, bi_min2, bi_abs, bi_bool, cm_mem, cm_nmem, Int.reducePow, WO_app, own_eq, fl_0, fl_s, setD_eq, fz, retE, ev_var, ev_non, ev_bl, ev_int, ev_str, ev_glb, ev_tup, ev_lst, ev_dic, ev_bin, ev_neg, ev_not, ev_and, ev_or, ev_cmp, ev_cm2, ev_isn, ev_nsn, ev_ite, ev_idx, ev_tix, ev_scs, ev_sli, ev_rev, ev_call, ev_isi, ev_met, ev_gix, ev_lof, ev_tof, ev_rv2, ev_act, ev_isx, ev_plc, ev_rng, ev_rn3, ev_enu, ev_zip, ev_vals, ev_its, ev_comp, ev_comp2, ev_dcom, ev_srt, asg_nm, asg_tt, asg_tl, asgs_nil, asgs_cons, ev_bi, fx_nil, WO_stp, fr_1, fr_2, fr_3, fr_4, fr_5, fr_6, fr_7, fr_8, fr_9, fr_10, fr_11, fr_12, fr_13, fr_14, fr_15, fr_16, lfz_app, List.append_nil, WO_aug, WO_trya, WO_tryl, augD, bd_exc, gd_0, gd_s, cb_eq, cb_ne]); repeat (refine Wn_mk ?_; try simp only [*, WO_seq, WO_set, WO_ret, WO_ife, WO_exp, WO_forr, WO_nop, WO_retn, WO_par, WO_if, WO_nx, WO_rt, WO_tst, W_bind, W_ok, W_some, W_none, W_lift, W_if, W_quiet, vs_var, vR_var, vs_non, vR_non, vs_bl, vR_bl, vs_int, vR_int, vs_str, vR_str, vs_glb, vR_glb, vs_scs, vR_scs, vs_tup, vR_tup, vs_lst, vR_lst, vs_dic, vR_dic, vs_bin, vR_bin, vs_neg, vR_neg, vs_not, vR_not, vs_and, vR_and, vs_or, vR_or, vs_cmp, vR_cmp, vs_cm2, vR_cm2, vs_isn, vR_isn, vs_nsn, vR_nsn, vs_ite, vs_idx, vR_idx, vs_tix, vR_tix, vs_sli, vR_sli, vs_rev, vR_rev, vs_call, vs_bi, vR_bi, vs_isi, vR_isi, vs_met, vR_met, vs_comp, vR_comp, vs_dcom, vR_dcom, vs_comp2, vR_comp2, vs_rng, vR_rng, vs_rn3, vR_rn3, vs_enu, vR_enu, vs_zip, vR_zip, vs_vals, vR_vals, vs_its, vR_its, vs_lof, vR_lof, vs_act, vR_act, vs_isx, vR_isx, vs_plc, vR_plc, vs_srt, vR_srt, vs_rv2, vR_rv2, vs_tof, vR_tof, vs_gix, vR_gix, vs_nil, vs_tpv, vs_scv, vs_lam, vR_call, vR_ite, gv_0, gv_s, ix_l0, ix_l1, ix_l2, ix_l3, ix_l4, ix_l5, ix_l6, ix_l7, ix_t0, ix_t1, ix_t2, ix_t3, ix_t4, ix_t5, ix_t6, ix_t7, st_l0, st_l1, st_l2, st_l3, st_l4, tr_b, tr_i, cm_eq, cm_ne, cm_lt, cm_gt, cm_le, cm_ge, bn_add, bn_sub, bi_int, bi_lenl, bi_lent, al_nil, al_cons, fx_i, fx_b, fx_s, fx_n, fx_l, fx_t, fx_d, mu_i, mu_b, mu_s, mu_n, mu_t, mu_l, mu_d, co_i, co_b, co_s, co_n, co_t, co_l, co_d, se_0, se_s, ex_some, Option.map_some, Option.bind_some, Bool.false_eq_true, if_false, if_true, decide_eq_true_eq, Bool.and_false, Bool.false_and, Bool.and_true, Bool.true_and, Bool.or_false, Bool.false_or, Ev.fresh, ownV, bd_ok, lift_some, part_t, part_f, test_t, test_f, as_i, isNil, blank, slotsP, isTy, List.any_cons, List.any_nil, Bool.not_true, Bool.not_false, List.map_cons, List.map_nil, List.cons_append, List.nil_append, List.replicate_succ, List.replicate_zero, Nat.reduceSub, and_self, and_true, true_and, Int.reduceSub, Int.reduceAdd, Int.reduceNeg, Int.reduceMul, Int.reduceLT, Int.reduceLE, decide_true, decide_false, not_true_eq_false, not_false_eq_true, Prod.mk.injEq, bn_mod, bn_fdiv', bn_mull, bn_mulr, bi_max3, bi_max2, bi_min2, bi_abs, bi_bool, cm_mem, cm_nmem, Int.reducePow, WO_app, own_eq, fl_0, fl_s, setD_eq, fz, retE, ev_var, ev_non, ev_bl, ev_int, ev_str, ev_glb, ev_tup, ev_lst, ev_dic, ev_bin, ev_neg, ev_not, ev_and, ev_or, ev_cmp, ev_cm2, ev_isn, ev_nsn, ev_ite, ev_idx, ev_tix, ev_scs, ev_sli, ev_rev, ev_call, ev_isi, ev_met, ev_gix, ev_lof, ev_tof, ev_rv2, ev_act, ev_isx, ev_plc, ev_rng, ev_rn3, ev_enu, ev_zip, ev_vals, ev_its, ev_comp, ev_comp2, ev_dcom, ev_srt, asg_nm, asg_tt, asg_tl, asgs_nil, asgs_cons, ev_bi, fx_nil, WO_stp, fr_1, fr_2, fr_3, fr_4, fr_5, fr_6, fr_7, fr_8, fr_9, fr_10, fr_11, fr_12, fr_13, fr_14, fr_15, fr_16, lfz_app, List.append_nil, WO_aug, WO_trya, WO_tryl, augD, bd_exc, gd_0, gd_s, cb_eq, cb_ne])))
mutual
/-- the same datum, kind by kind -/
def same : PyData → PyData → Bool
  | .none, .none => true
  | .bool a, .bool b => a == b
  | .int a, .int b => decide (a = b)
  | .str a, .str b => decide (a = b)
  | .list a, .list b => sames a b
  | .tuple a, .tuple b => sames a b
  | .dict a, .dict b => samek a b
  | _, _ => false
def sames : List PyData → List PyData → Bool
  | [], [] => true
  | a :: r, b :: s => same a b && sames r s
  | _, _ => false
def samek : List (PyData × PyData) → List (PyData × PyData) → Bool
  | [], [] => true
  | (a, c) :: r, (b, d) :: s => same a b && (same c d && samek r s)
  | _, _ => false
end
mutual
theorem same_eq : ∀ {x y : PyData}, same x y = true → x = y
  | .none, y, h => by cases y <;> first | rfl | cases h
  | .bool a, y, h => by cases y with | bool b => exact congrArg _ (eq_of_beq h) | _ => cases h
  | .int a, y, h => by cases y with | int b => exact congrArg _ (of_decide_eq_true h) | _ => cases h
  | .str a, y, h => by cases y with | str b => exact congrArg _ (of_decide_eq_true h) | _ => cases h
  | .list a, y, h => by cases y with | list b => exact congrArg _ (sames_eq (x := a) (y := b) h) | _ => cases h
  | .tuple a, y, h => by cases y with | tuple b => exact congrArg _ (sames_eq (x := a) (y := b) h) | _ => cases h
  | .dict a, y, h => by cases y with | dict b => exact congrArg _ (samek_eq (x := a) (y := b) h) | _ => cases h
theorem sames_eq : ∀ {x y : List PyData}, sames x y = true → x = y
  | [], y, h => by cases y <;> first | rfl | cases h
  | a :: r, y, h => by
    cases y with
    | nil => cases h
    | cons b s =>
      have h : (same a b && sames r s) = true := h
      rw [Bool.and_eq_true] at h
      rw [same_eq h.1, sames_eq h.2]
theorem samek_eq : ∀ {x y : List (PyData × PyData)}, samek x y = true → x = y
  | [], y, h => by cases y <;> first | rfl | cases h
  | (a, c) :: r, y, h => by
    cases y with
    | nil => cases h
    | cons b s =>
      obtain ⟨b, d⟩ := b
      have h : (same a b && (same c d && samek r s)) = true := h
      rw [Bool.and_eq_true, Bool.and_eq_true] at h
      rw [same_eq h.1, same_eq h.2.1, samek_eq h.2.2]
end
def okB (r : Res (PyData × Bool)) (y : PyData) : Bool := match r with
  | .ok (x, _) none => same x y
  | _ => false
def okF (r : Res (PyData × Bool)) (y : PyData) (m : Bool) : Bool := match r with
  | .ok (x, b) none => same x y && b == m
  | _ => false
def xcB (r : Res (PyData × Bool)) (c : Nat) : Bool := match r with
  | .exc d [] none => decide (d = c)
  | _ => false
def okE (r : Res PyData) (y : PyData) : Bool := match r with
  | .ok x none => same x y
  | _ => false
section
variable {gl : Nat → Option PyData} {fns : List Fn} {wf n n0 : Nat}
theorem cl_tab (hc : calm fns = true) (hn : n0 ≤ n) {f : Nat} {vs : List Vl} {y : PyData} (h : okB ((cal gl fns wf n0).cl f vs none) y = true) : ∃ m, ∀ t, (cal gl fns wf n).cl f vs t = .ok (y, m) t := by
  cases e : (cal gl fns wf n0).cl f vs none with
  | ok a u =>
    rw [e] at h
    cases u with
    | none =>
      obtain ⟨x, m⟩ := a
      have : x = y := same_eq h
      subst this
      exact ⟨m, fun t => cl_any hc (Nat.le_refl _) hn e t⟩
    | some u => cases h
  | exc c p u => rw [e] at h; cases h
  | bad => rw [e] at h; cases h
theorem cx_tab (hc : calm fns = true) (hn : n0 ≤ n) {f : Nat} {vs : List Vl} {c : Nat} (h : xcB ((cal gl fns wf n0).cl f vs none) c = true) : ∀ t, (cal gl fns wf n).cl f vs t = .exc c [] t := by
  cases e : (cal gl fns wf n0).cl f vs none with
  | ok a u => rw [e] at h; cases h
  | exc d p u =>
    rw [e] at h
    cases p with
    | nil =>
      cases u with
      | none =>
        have : d = c := of_decide_eq_true h
        subst this
        exact fun t => cx_any hc (Nat.le_refl _) hn e t
      | some u => cases h
    | cons x r => cases h
  | bad => rw [e] at h; cases h
theorem exp_tab (hc : calm fns = true) (hn : n0 ≤ n) {e : Ex} {r : Ev.Env} {y : PyData} (h : okE (ev (cal gl fns wf n0) e r none) y = true) (t : Tp) : ev (cal gl fns wf n) e r t = .ok y t := by
  have z := ev_le (cal_le (T0 := t) (gl := gl) hc (Nat.le_refl wf) n0 n hn) e r none t rfl
  cases q : ev (cal gl fns wf n0) e r none with
  | ok a u =>
    rw [q] at h z
    cases u with
    | none =>
      have : a = y := same_eq h
      subst this
      obtain ⟨u', z1, z2⟩ := z
      have z2 : u' = t := z2
      rw [z1, z2]
    | some u => cases h
  | exc c p u => rw [q] at h; cases h
  | bad => rw [q] at h; cases h
theorem cl_tabF (hc : calm fns = true) (hn : n0 ≤ n) {f : Nat} {vs : List Vl} {y : PyData} {m : Bool} (h : okF ((cal gl fns wf n0).cl f vs none) y m = true) (t : Tp) : (cal gl fns wf n).cl f vs t = .ok (y, m) t := by
  cases e : (cal gl fns wf n0).cl f vs none with
  | ok a u =>
    rw [e] at h
    cases u with
    | none =>
      obtain ⟨x, b⟩ := a
      have h : (same x y && b == m) = true := h
      rw [Bool.and_eq_true] at h
      have h1 : x = y := same_eq h.1
      have h2 : b = m := eq_of_beq h.2
      subst h1 h2
      exact cl_any hc (Nat.le_refl _) hn e t
    | some u => cases h
  | exc c p u => rw [e] at h; cases h
  | bad => rw [e] at h; cases h
/-- a def's call -/
theorem cl_do {f : Nat} {F : Fn} {vs : List Vl} {t : Tp} {Q : PyData × Bool → Tp → Prop} (hf : fns[f]? = some F) (hl : vs.length = F.ar) (h : WO (evS (cal gl fns wf n) F.body ⟨vs.map some ++ List.replicate (F.sl - F.ar) none, List.replicate F.sl false, t⟩) (fun s => Q (.none, false) s.t) fun x m t => Q (x, m) t) :
    W ((cal gl fns wf (n + 1)).cl f vs t) Q := by
  show W (match fns[f]? with
    | some F => _
    | none => _) Q
  rw [hf]
  dsimp only
  rw [if_pos hl]
  cases e : evS (cal gl fns wf n) F.body ⟨vs.map some ++ List.replicate (F.sl - F.ar) none, List.replicate F.sl false, t⟩ with
  | nx s => rw [e] at h; exact h
  | rt x m t => rw [e] at h; exact h
  | ex c p s => rw [e] at h; exact False.elim h
  | bad => rw [e] at h; exact False.elim h
end
/-- a call that draws -/
def Gives (r : Res (PyData × Bool)) (P : PyData → Prop) : Prop := W r fun x t => TW t ∧ P x.1
theorem Gives.use {r : Res (PyData × Bool)} {P : PyData → Prop} {Q : PyData × Bool → Tp → Prop} (h : Gives r P) (k : ∀ x m t, TW t → P x → Q (x, m) t) : W r Q := h.mono fun a t z => k a.1 a.2 t z.1 z.2
def PickG (g : Gm) (k : Nat) : Prop := ∀ (n : Int) (t : Tp), 0 < n → n < 2 ^ 64 → TW t → Gives (g.cl k [.tp, .d (.int n)] t) fun x => ∃ i, x = .int i ∧ 0 ≤ i ∧ i < n
theorem sml {n : Int} (h : 0 < n) (k : n < 2 ^ 64) : n.natAbs < 2 ^ 2000 := Nat.lt_of_lt_of_le (show n.natAbs < 2 ^ 64 by omega) (Nat.pow_le_pow_right (by decide) (by decide))
theorem pickG {gl : Nat → Option PyData} {fns : List Fn} {wf n f : Nat} {X : Ex} {k a b m : Int} (hf : fns[f]? = some ⟨2, 5, pk X k a b m⟩) (ha : sm a) (hb : 0 ≤ b ∧ b < 2 ^ 32) (hm : 0 < m ∧ m < 2 ^ 63) (hX : ∀ (r : Ev.Env) (t : Tp) (c : Int), getV r 3 = some (.d (.int c)) → ∃ z, ev (cal gl fns wf n) X r t = .ok (.int z) t) : PickG (cal gl fns wf (n + 1)) f := fun i t h1 h2 ht => by
  refine cl_do hf rfl ?_
  exact (pk_ok ha hb hm _ hX i t h1 (sml h1 h2) ht).mono (fun _ z => z.elim) fun x m t z => z
/-- any of some -/
def b_any (k : Nat) : St := .ret (.idx (.var 1) (.call k (.cons (.tpv 0) (.cons (.bi .len (.cons (.var 1) .nil)) .nil))))
def AnyG (g : Gm) (k : Nat) : Prop := ∀ (xs : List PyData) (t : Tp), xs ≠ [] → xs.length ≤ line → TW t → Gives (g.cl k [.tp, .d (.list xs)] t) fun x => x ∈ xs
theorem idx_in {xs : List PyData} {i : Int} (h0 : 0 ≤ i) (h1 : i < xs.length) : ∃ x, idxD (.list xs) (.int i) = some x ∧ x ∈ xs ∧ xs[i.toNat]? = some x := by
  have e : ixN xs.length i = some i.toNat := by
    unfold ixN
    rw [if_pos h0, if_pos h1]
  have q : xs[i.toNat]? = some (xs[i.toNat]'(by omega)) := List.getElem?_eq_getElem (by omega)
  refine ⟨_, ?_, List.getElem_mem (by omega), q⟩
  show (ixN _ _).bind _ = _
  rw [e]
  exact q
theorem anyG {gl : Nat → Option PyData} {fns : List Fn} {wf n f k : Nat} (hf : fns[f]? = some ⟨2, 2, b_any k⟩) (hp : PickG (cal gl fns wf n) k) : AnyG (cal gl fns wf (n + 1)) f := fun xs t h1 h2 ht => by
  refine cl_do hf rfl ?_
  show WO (evS _ (b_any k) ⟨[some .tp, some (.d (.list xs))], [false, false], t⟩) _ _
  unfold b_any
  walk_at "ev"
  have hl : 0 < xs.length := List.length_pos_iff.mpr h1
  have h3 : line = 16777216 := rfl
  refine (hp xs.length t (by omega) (by omega) ht).use fun x m u hu z => ?_
  obtain ⟨i, rfl, h4, h5⟩ := z
  obtain ⟨x, e, mx, _⟩ := idx_in h4 h5
  exact ⟨x, e, hu, mx⟩
/-- the tape is made -/
def b_tape (c : Int) (E : Ex) : St := .seq (.set (.nm 1) (.comp (.nm 2) (.scs 0 .nil (.int 63)) .nil (.bi .abs (.cons (.bi .int (.cons (.var 2) .nil)) .nil))))
  (.ret (.lst (.cons (.var 1) (.cons (.int 0) (.cons (.int 0) (.cons (.bin .add (.int c) E) (.cons (.int 0) .nil)))))))
def TapeG (g : Gm) (k : Nat) : Prop := ∀ ns : List Int, W (g.cl k [.scr ns] none) fun x t => t = none ∧ x.2 = true ∧ ∃ ts, x.1 = .list ts ∧ TW (some ts)
theorem intsD_map : ∀ {ns : List Int}, intsD (ns.map .int) = some ns
  | [] => rfl
  | n :: r => by
    show (intsD (r.map .int)).map _ = _
    rw [intsD_map]
    rfl
theorem tapeG {gl : Nat → Option PyData} {fns : List Fn} {wf n f : Nat} {c : Int} {E : Ex} (hf : fns[f]? = some ⟨1, 3, b_tape c E⟩) (hE : ∀ (r : Ev.Env) (t : Tp) (xs : List PyData), getV r 1 = some (.d (.list xs)) → ∃ z, ev (cal gl fns wf n) E r t = .ok (.int z) t) : TapeG (cal gl fns wf (n + 1)) f := fun ns => by
  refine cl_do hf rfl ?_
  show WO (evS _ (b_tape c E) ⟨[some (.scr ns), none, none], [false, false, false], none⟩) _ _
  unfold b_tape
  have ec : cut (ns.map PyData.int) none (some 63) = (ns.take 63).map .int := by
    unfold cut
    rw [HT.sIx_none, List.length_map]
    have e1 : HT.sIx ns.length ns.length (some 63) = min 63 ns.length := HT.sIx_nat ns.length ns.length 63
    rw [e1, List.drop_zero, Nat.sub_zero, ← List.map_take]
    congr 1
    rcases Nat.le_total 63 ns.length with h | h
    · rw [Nat.min_eq_left h]
    · rw [Nat.min_eq_right h, List.take_of_length_le (Nat.le_refl _), List.take_of_length_le h]
  walk_at "ev"
  rw [ec]
  have h63 : (ns.take 63).length ≤ 63 := by rw [List.length_take]; exact Nat.min_le_left _ _
  refine ⟨_, wk_l (by rw [List.length_map]; exact Nat.le_trans h63 (by decide)), ?_⟩
  rw [mapT_map (h := fun x => match x with | .int i => .int (if i < 0 then -i else i) | x => x) (fun x m => ?_)]
  · walk_at "ev"
    have em : (((ns.take 63).map PyData.int).map fun x => match x with | .int i => .int (if i < 0 then -i else i) | x => x) = ((ns.take 63).map fun i => if i < 0 then -i else i).map PyData.int := by
      rw [List.map_map, List.map_map]
      rfl
    rw [em]
    obtain ⟨z, e⟩ := hE [some (.scr ns), some (.d (.list (((ns.take 63).map fun i => if i < 0 then -i else i).map PyData.int))), none] none _ rfl
    rw [e]
    walk_at "ev"
    exact ⟨_, rfl, _, _, _, _, _, rfl, Int.le_refl 0⟩
  · obtain ⟨i, _, rfl⟩ := List.mem_map.mp m
    rfl
theorem eqW {α : Type} {q : Res α} {a : α} {t : Tp} (h : W q fun x u => x = a ∧ u = t) : q = .ok a t := by
  obtain ⟨x, u, e, rfl, rfl⟩ := h.elim
  exact e
/-- .. its flag aside -/
theorem eqm {q : Res (PyData × Bool)} {y : PyData} {t : Tp} (h : W q fun x u => x.1 = y ∧ u = t) : ∃ m, q = .ok (y, m) t := by
  obtain ⟨x, u, e, rfl, rfl⟩ := h.elim
  exact ⟨x.2, e⟩
/-- a call's answer in plain: its flag left open -/
def Pure (g : Gm) (f : Nat) (vs : List Vl) (y : PyData) : Prop := ∀ t, ∃ m, g.cl f vs t = .ok (y, m) t
theorem Pure.use {g : Gm} {f : Nat} {vs : List Vl} {y : PyData} {t : Tp} {Q : PyData × Bool → Tp → Prop} (h : Pure g f vs y) (k : ∀ m, Q (y, m) t) : W (g.cl f vs t) Q := by
  obtain ⟨m, e⟩ := h t
  exact W.of e (k m)
end Ev

set_option Elab.async false
set_option autoImplicit false
set_option linter.all false
set_option maxRecDepth 100000
set_option maxHeartbeats 2000000
/-! repr of small data. -/
namespace Ev
open PySem L2
/-- data that repr shows: depth, length of its text -/
structure Sh (x : PyData) (d k : Nat) : Prop where
  sh : x.showable = true
  nd : x.hasDict = false
  dp : x.depth ≤ d
  ln : x.shown.length ≤ k
theorem Sh.mono {x : PyData} {d k d' k' : Nat} (h : Sh x d k) (a : d ≤ d') (b : k ≤ k') : Sh x d' k' := ⟨h.sh, h.nd, Nat.le_trans h.dp a, Nat.le_trans h.ln b⟩
theorem sh_int {i : Int} (h : i.natAbs < 10 ^ 18) : Sh (.int i) 0 19 := by
  refine ⟨?_, rfl, Nat.le_refl 0, ?_⟩
  · show decide (i.natAbs.log2 < 1920) = true
    refine decide_eq_true ?_
    by_cases z : i.natAbs = 0
    · rw [z]; decide
    · have : i.natAbs < 2 ^ 1920 := Nat.lt_of_lt_of_le h (Nat.le_trans (show 10 ^ 18 ≤ 2 ^ 64 by decide) (Nat.pow_le_pow_right (by decide) (by decide)))
      exact (Nat.log2_lt z).mpr this
  · show (Str.ofString (toString i)).length ≤ 19
    rw [PySem.ofString_length]
    exact int_text_length_le10 (by decide) h
theorem sh_non : Sh .none 0 4 := ⟨rfl, rfl, Nat.le_refl 0, by decide +kernel⟩
theorem sh_bl {b : Bool} : Sh (.bool b) 0 5 := ⟨rfl, rfl, Nat.le_refl 0, by cases b <;> decide +kernel⟩
theorem sh_str {z : Str} {k : Nat} (h : (reprText z).length ≤ k) : Sh (.str z) 0 k := ⟨rfl, rfl, Nat.le_refl 0, h⟩
theorem sh_all {d k : Nat} : ∀ {xs : List PyData}, (∀ x ∈ xs, Sh x d k) → PyData.showableAll xs = true ∧ PyData.hasDictAll xs = false ∧ PyData.depthAll xs ≤ d ∧ piled (PyData.shownAll xs) ≤ xs.length * (k + 2)
  | [], _ => ⟨rfl, rfl, Nat.zero_le _, by show piled [] ≤ 0 * _; rw [piled_nil]; exact Nat.zero_le _⟩
  | x :: r, h => by
    obtain ⟨h1, h2, h3, h4⟩ := sh_all (xs := r) fun y m => h y (List.mem_cons_of_mem _ m)
    obtain ⟨a1, a2, a3, a4⟩ := h x List.mem_cons_self
    refine ⟨?_, ?_, ?_, ?_⟩
    · rw [PyData.showableAll, a1, h1]; rfl
    · rw [PyData.hasDictAll, a2, h2]; rfl
    · rw [PyData.depthAll]; exact Nat.max_le.mpr ⟨a3, h3⟩
    · rw [PyData.shownAll, piled_cons, List.length_cons, Nat.succ_mul]; omega
theorem sh_tup {xs : List PyData} {d k : Nat} (h : ∀ x ∈ xs, Sh x d k) : Sh (.tuple xs) (d + 1) (xs.length * (k + 2) + 2) := by
  obtain ⟨h1, h2, h3, h4⟩ := sh_all h
  refine ⟨by rw [PyData.showable]; exact h1, by rw [PyData.hasDict]; exact h2, by rw [PyData.depth]; omega, ?_⟩
  rw [PyData.shown]
  have := fmt_text (PyData.shownAll xs)
  omega
theorem textFrom_le : ∀ (ts : List Str) (k : Nat) (acc : Str), (textFrom k acc ts).length ≤ acc.length + piled ts
  | [], k, acc => by show acc.length ≤ _; omega
  | t :: r, k, acc => by
    have ih := textFrom_le r (k + 1) (acc ++ (if k > 0 then ", " else "" : String) ++ t)
    have e : (acc ++ (if k > 0 then ", " else "" : String) ++ t).length ≤ acc.length + 2 + t.length := by
      rw [strLen_append, strLen_append]
      have : (((if k > 0 then ", " else "" : String) : Str)).length ≤ 2 := by split <;> decide +kernel
      omega
    rw [piled_cons]
    show (textFrom (k + 1) _ r).length ≤ _
    omega
theorem sh_lst {xs : List PyData} {d k : Nat} (h : ∀ x ∈ xs, Sh x d k) : Sh (.list xs) (d + 1) (xs.length * (k + 2) + 2) := by
  obtain ⟨h1, h2, h3, h4⟩ := sh_all h
  refine ⟨by rw [PyData.showable]; exact h1, by rw [PyData.hasDict]; exact h2, by rw [PyData.depth]; omega, ?_⟩
  rw [PyData.shown]
  unfold listText
  rw [strLen_append]
  have := textFrom_le (PyData.shownAll xs) 0 "["
  have e1 : ((("[" : String) : Str)).length = 1 := rfl
  have e2 : ((("]" : String) : Str)).length = 1 := rfl
  omega
theorem repr_of {x : PyData} {d k : Nat} (h : Sh x d k) (hd : d ≤ 64) (hk : k ≤ line) : biD .repr [x] = some (.str x.shown) := by
  refine if_pos ?_
  rw [h.sh, h.nd, decide_eq_true (Nat.le_trans h.dp hd), decide_eq_true (Nat.le_trans h.ln hk)]
  rfl
theorem cs_eq {a b : Str} : cmpD .eq (.str a) (.str b) = some (decide (a = b)) := by
  show eqD _ _ = _
  unfold eqD
  rw [if_pos (by rfl)]
  show some (a == b) = _
  by_cases h : a = b
  · subst h; simp
  · simp [h]
theorem cs_ne {a b : Str} : cmpD .ne (.str a) (.str b) = some (decide (a ≠ b)) := by
  show (cmpD .eq (.str a) (.str b)).map _ = _
  rw [cs_eq]
  by_cases h : a = b
  · subst h; simp
  · simp [h]
/-- the less of a row is of the row -/
theorem lminD_mem (x : PyData) : ∀ r : List PyData, W.minD x r ∈ x :: r := by
  intro r
  unfold W.minD
  induction r generalizing x with
  | nil => exact List.mem_cons_self
  | cons y r ih =>
    rw [List.foldl_cons]
    split
    · exact List.mem_cons_of_mem _ (ih y)
    · rcases List.mem_cons.mp (ih x) with h | h
      · rw [h]; exact List.mem_cons_self
      · exact List.mem_cons_of_mem _ (List.mem_cons_of_mem _ h)
end Ev

set_option Elab.async false
set_option autoImplicit false
set_option linter.all false
set_option maxRecDepth 100000
set_option maxHeartbeats 2000000
/-! Loops over ranges, slices, draws in a row. -/
namespace Ev
open PySem L2
theorem rngD_cons {a b : Int} (h : a < b) : rngD a b = .int a :: rngD (a + 1) b := by
  unfold rngD
  have e : (b - a).toNat = (b - (a + 1)).toNat + 1 := by omega
  rw [e, List.range_succ_eq_map, List.map_cons, List.map_map]
  congr 1
  · simp
  · refine List.map_congr_left fun i _ => ?_
    show PyData.int (a + ((i + 1 : Nat) : Int)) = PyData.int (a + 1 + (i : Int))
    congr 1
    omega
theorem rngD_nil {a b : Int} (h : b ≤ a) : rngD a b = [] := by
  unfold rngD
  have e : (b - a).toNat = 0 := by omega
  rw [e]
  rfl
/-- a loop over a range, by what holds ahead of each turn -/
theorem WO_rng {p : Pa} {f : Stt → Out} {N : Stt → Prop} {R : PyData → Bool → Tp → Prop} {b : Int} (J : Int → Stt → Prop) (step : ∀ k s, k < b → J k s → ∃ r, asg p (.int k) s.r = some r ∧ WO (f ⟨r, fz s.fl (slotsP p), s.t⟩) (J (k + 1)) R) (done : ∀ s, J b s → N s) : ∀ (n : Nat) (a : Int) (s : Stt), (b - a).toNat = n → a ≤ b → J a s → WO (evFor p f (rngD a b) s) N R
  | 0, a, s, e, l, h => by
    have : a = b := by omega
    subst this
    rw [rngD_nil (Int.le_refl _)]
    exact done s h
  | n + 1, a, s, e, l, h => by
    have hl : a < b := by omega
    obtain ⟨r, e1, z⟩ := step a s hl h
    rw [rngD_cons hl]
    unfold evFor
    rw [e1]
    dsimp only
    cases q : f ⟨r, fz s.fl (slotsP p), s.t⟩ with
    | nx s2 => rw [q] at z; exact WO_rng J step done n (a + 1) s2 (by omega) (by omega) z
    | rt x m t => rw [q] at z; exact z
    | ex c p s => rw [q] at z; exact z.elim
    | bad => rw [q] at z; exact z.elim
/-- item by item, each turn drawing -/
theorem mapT_tape {f : PyData → Tp → Res (Option PyData)} {P : PyData → Prop} : ∀ (xs : List PyData) (t : Tp), TW t → (∀ x ∈ xs, ∀ t, TW t → W (f x t) fun o u => TW u ∧ ∃ y, o = some y ∧ P y) → W (mapT f xs t) fun ys u => TW u ∧ ys.length = xs.length ∧ ∀ y ∈ ys, P y
  | [], t, ht, _ => ⟨ht, rfl, fun _ m => (by cases m)⟩
  | x :: r, t, ht, h => by
    unfold mapT
    rw [W_bind]
    refine (h x List.mem_cons_self t ht).mono fun o u z => ?_
    obtain ⟨hu, y, rfl, hy⟩ := z
    rw [W_bind]
    refine (mapT_tape r u hu fun z m => h z (List.mem_cons_of_mem _ m)).mono fun ys u z => ?_
    obtain ⟨hu, hl, hys⟩ := z
    refine ⟨hu, by show ys.length + 1 = r.length + 1; rw [hl], fun z m => ?_⟩
    rcases List.mem_cons.mp m with m | m
    · rw [m]; exact hy
    · exact hys z m
theorem sl_take {xs : List PyData} {k : Int} (h0 : 0 ≤ k) : sliD (.tuple xs) none (some k) = some (.tuple (xs.take k.toNat)) := by
  show some (PyData.tuple (cut xs none (some k))) = _
  unfold cut
  have e : HT.sIx xs.length xs.length (some k) = min k.toNat xs.length := by
    show (if k < 0 then _ else _) = _
    rw [if_neg (by omega)]
  rw [e, HT.sIx_none, List.drop_zero, Nat.sub_zero]
  congr 2
  rcases Nat.le_total k.toNat xs.length with h | h
  · rw [Nat.min_eq_left h]
  · rw [Nat.min_eq_right h, List.take_of_length_le (Nat.le_refl _), List.take_of_length_le h]
theorem sl_drop {xs : List PyData} {k : Int} (h0 : 0 ≤ k) : sliD (.tuple xs) (some k) none = some (.tuple (xs.drop k.toNat)) := by
  show some (PyData.tuple (cut xs (some k) none)) = _
  unfold cut
  have e : HT.sIx xs.length 0 (some k) = min k.toNat xs.length := by
    show (if k < 0 then _ else _) = _
    rw [if_neg (by omega)]
  rw [e, HT.sIx_none]
  congr 2
  rcases Nat.le_total k.toNat xs.length with h | h
  · rw [Nat.min_eq_left h, List.take_of_length_le (by rw [List.length_drop]; exact Nat.le_refl _)]
  · rw [Nat.min_eq_right h, Nat.sub_self, List.take_zero, List.drop_of_length_le h]
theorem bn_addt {a b : List PyData} (h : a.length + b.length ≤ line) : binD .add (.tuple a) (.tuple b) = some (.tuple (a ++ b)) := if_pos h
theorem bn_addl {a b : List PyData} (h : a.length + b.length ≤ line) : binD .add (.list a) (.list b) = some (.list (a ++ b)) := if_pos h
theorem bi_intb {b : Bool} : biD .int [.bool b] = some (.int (if b = true then 1 else 0)) := rfl
theorem bi_tupl {xs : List PyData} : biD .tuple [.list xs] = some (.tuple xs) := rfl
theorem bi_lstt {xs : List PyData} : biD .list [.tuple xs] = some (.list xs) := rfl
theorem blsD_map {xs : List PyData} {h : PyData → Bool} : blsD (xs.map fun x => .bool (h x)) = some (xs.map h) := by
  induction xs with
  | nil => rfl
  | cons x r ih =>
    show (blsD (r.map fun x => .bool (h x))).map _ = _
    rw [ih]
    rfl
theorem all_map {xs : List PyData} {h : PyData → Bool} : biD .all [.list (xs.map fun x => .bool (h x))] = some (.bool (xs.all h)) := by
  show (blsD _).map _ = _
  rw [blsD_map]
  show some (PyData.bool ((xs.map h).all id)) = _
  congr 2
  rw [List.all_map]
  rfl
/-- the item of a row of numbers -/
def gt (ls : List Int) (k : Int) : Int := ls.getD k.toNat 0
theorem ixm {ls : List Int} {k : Int} (h0 : 0 ≤ k) (h1 : k < ls.length) : idxD (.tuple (ls.map .int)) (.int k) = some (.int (gt ls k)) := by
  have e : ixN (ls.map PyData.int).length k = some k.toNat := by
    unfold ixN
    rw [if_pos h0, if_pos (by rw [List.length_map]; exact h1)]
  show (ixN _ _).bind _ = _
  rw [e]
  show (ls.map PyData.int)[k.toNat]? = _
  unfold gt
  rw [List.getElem?_map, List.getD_eq_getElem?_getD, List.getElem?_eq_getElem (by omega)]
  rfl
theorem ixm_last {ls : List Int} {z : Int} : idxD (.tuple ((ls ++ [z]).map .int)) (.int (-1)) = some (.int z) := by
  have e : ixN ((ls ++ [z]).map PyData.int).length (-1) = some ls.length := by
    unfold ixN
    rw [if_neg (by decide), List.length_map, List.length_append, List.length_singleton, if_pos (by omega)]
    congr 1
    omega
  show (ixN _ _).bind _ = _
  rw [e]
  show ((ls ++ [z]).map PyData.int)[ls.length]? = _
  rw [List.getElem?_map, List.getElem?_append_right (Nat.le_refl _), Nat.sub_self]
  rfl
theorem rng_ok {i j : Int} {t : Tp} (h : i.natAbs < 2 ^ 60) (k : j.natAbs < 2 ^ 60) : (if i.natAbs < 2 ^ 60 ∧ j.natAbs < 2 ^ 60 then some (PyData.list (rngD i j)) else none) = some (.list (rngD i j)) := if_pos ⟨h, k⟩
/-- a loop's rest, left closed -/
@[irreducible] def Wf (p : Pa) (f : Stt → Out) (xs : List PyData) (s : Stt) (N : Stt → Prop) (R : PyData → Bool → Tp → Prop) : Prop := WO (evFor p f xs s) N R
theorem Wf_mk {p : Pa} {f : Stt → Out} {xs : List PyData} {s : Stt} {N : Stt → Prop} {R : PyData → Bool → Tp → Prop} (h : WO (evFor p f xs s) N R) : Wf p f xs s N R := by unfold Wf; exact h
theorem WO_fnil {p : Pa} {f : Stt → Out} {s : Stt} {N : Stt → Prop} {R : PyData → Bool → Tp → Prop} : WO (evFor p f [] s) N R = N s := rfl
theorem WO_fcons {p : Pa} {f : Stt → Out} {x : PyData} {xs : List PyData} {s : Stt} {N : Stt → Prop} {R : PyData → Bool → Tp → Prop} : WO (evFor p f (x :: xs) s) N R = match asg p x s.r with
    | none => False
    | some r => WO (f ⟨r, fz s.fl (slotsP p), s.t⟩) (fun s => Wf p f xs s N R) R := by
  have e : (fun s => Wf p f xs s N R) = fun s => WO (evFor p f xs s) N R := by funext s; unfold Wf; rfl
  rw [e]
  show WO (match asg p x s.r with
    | none => .bad
    | some r => match f ⟨r, fz s.fl (slotsP p), s.t⟩ with
      | .nx s => evFor p f xs s
      | o => o) N R = _
  cases asg p x s.r with
  | none => rfl
  | some r =>
    dsimp only
    cases f ⟨r, fz s.fl (slotsP p), s.t⟩ <;> rfl
/-- what stands behind n statements -/
def sn : St → Nat → St
  | b, 0 => b
  | .seq _ b, n + 1 => sn b n
  | b, _ + 1 => b
/-- a def that raises -/
theorem cx_do {gl : Nat → Option PyData} {fns : List Fn} {wf n f : Nat} {F : Fn} {vs : List Vl} {t : Tp} {c : Nat} {p : List PyData} (hf : fns[f]? = some F) (hl : vs.length = F.ar) (h : ∃ s, evS (cal gl fns wf n) F.body ⟨vs.map some ++ List.replicate (F.sl - F.ar) none, List.replicate F.sl false, t⟩ = .ex c p s ∧ s.t = t) : (cal gl fns wf (n + 1)).cl f vs t = .exc c p t := by
  obtain ⟨s, e, es⟩ := h
  show (match fns[f]? with
    | some F => _
    | none => _) = _
  rw [hf]
  dsimp only
  rw [if_pos hl, e]
  show Res.exc c p s.t = _
  rw [es]
theorem out_ok {α : Type} {a : α} {t : Tp} {s : Stt} {f : α → Tp → Out} : (Res.ok a t).out s f = f a t := rfl
theorem out_exc {α : Type} {c : Nat} {p : List PyData} {t : Tp} {s : Stt} {f : α → Tp → Out} : (Res.exc c p t : Res α).out s f = .ex c p { s with t := t } := rfl
theorem evS_seq {g : Gm} {a b : St} {s : Stt} : evS g (.seq a b) s = match evS g a s with | .nx s => evS g b s | o => o := rfl
theorem evS_exp {g : Gm} {e : Ex} {s : Stt} : evS g (.exp e) s = (ev g e s.r s.t).out s fun _ t => .nx { s with t := t } := rfl
theorem evS_ife {g : Gm} {c : Ex} {a b : St} {s : Stt} : evS g (.ife c a b) s = ((ev g c s.r s.t).bind fun x t => lift (truthD x) t).out s fun k t => if k = true then evS g a { s with t := t } else evS g b { s with t := t } := rfl
theorem evS_rai0 {g : Gm} {c : Nat} {s : Stt} : evS g (.rai c .nil) s = .ex c [] s := rfl
end Ev

set_option Elab.async false
set_option linter.all false
set_option maxRecDepth 100000
set_option maxHeartbeats 0
namespace K76
open PySem Ev
abbrev rw := PySem.Challenge.rw_tonehouse_k76_whole_costs_of_fingers_on
def top (i : Nat) : Stmt := rw.prog.main.body.getD i (.Pass ⟨0, 0, 0, 0⟩)
/- 0 is_integer: 0 thing -/
def b_is_integer : St := (.ret (.and (.isi (.var 0) [.int]) (.not (.isi (.var 0) [.bool]))))
/- 1 is_within: 0 thing 1 low 2 high -/
def b_is_within : St := (.ret (.and (.call 0 (.cons (.var 0) .nil)) (.cm2 .le .le (.var 1) (.var 0) (.var 2))))
/- 2 is_sized: 0 thing 1 low 2 high -/
def b_is_sized : St := (.ret (.and (.isi (.var 0) [.tuple]) (.cm2 .le .le (.var 1) (.bi .len (.cons (.var 0) .nil)) (.var 2))))
/- 3 is_pitch: 0 thing -/
def b_is_pitch : St := (.ret (.call 1 (.cons (.var 0) (.cons (.int 0) (.cons (.glb 0) .nil)))))
/- 4 is_finger: 0 thing -/
def b_is_finger : St := (.ret (.call 1 (.cons (.var 0) (.cons (.int 1) (.cons (.int 5) .nil)))))
/- 5 is_line: 0 thing 1 one -/
def b_is_line : St := (.ret (.and (.call 2 (.cons (.var 0) (.cons (.int 1) (.cons (.glb 3) .nil)))) (.bi .all (.cons (.comp (.nm 1) (.var 0) .nil (.call 3 (.cons (.var 1) .nil))) .nil))))
/- 6 check_line: 0 line -/
def b_check_line : St := (.ife (.not (.call 5 (.cons (.var 0) .nil))) (.rai 3 .nil) .nop)
/- 7 on_black: 0 pitch 1 finger -/
def b_on_black : St := (.ret (.bi .int (.cons (.and (.cmp .eq (.var 1) (.glb 1)) (.cmp .mem (.bin .mod (.var 0) (.int 12)) (.glb 2))) .nil)))
/- 8 stretch_cost: 0 a 1 b 2 far 3 low 4 high -/
def b_stretch_cost : St := (.seq (.set (.nm 3) (.ite (.cmp .eq (.var 0) (.glb 1)) (.int 1) (.bin .sub (.var 1) (.var 0))))
  (.seq (.set (.nm 4) (.bin .add (.bin .mul (.int 2) (.bin .sub (.var 1) (.var 0))) (.ite (.cmp .eq (.var 0) (.glb 1)) (.int 3) (.int 1))))
  (.ret (.bi .max (.cons (.int 0) (.cons (.bin .sub (.var 3) (.var 2)) (.cons (.bin .sub (.var 2) (.var 4)) .nil)))))))
/- 9 raw_cost: 0 one 1 a 2 other 3 b 4 black 5 far -/
def b_raw_cost : St := (.seq (.set (.nm 4) (.call 7 (.cons (.var 2) (.cons (.var 3) .nil))))
  (.seq (.ife (.cmp .eq (.var 0) (.var 2)) (.ret (.bin .add (.var 4) (.bin .mul (.glb 4) (.bi .int (.cons (.cmp .ne (.var 1) (.var 3)) .nil))))) .nop)
  (.seq (.ife (.cmp .eq (.var 1) (.var 3)) (.ret (.bin .add (.var 4) (.glb 5))) .nop)
  (.seq (.ife (.cmp .lt (.var 2) (.var 0)) (.par 1 3 (.var 3) (.var 1)) .nop)
  (.seq (.set (.nm 5) (.bi .abs (.cons (.bin .sub (.var 2) (.var 0)) .nil)))
  (.seq (.ife (.cmp .lt (.var 1) (.var 3)) (.ret (.bin .add (.var 4) (.call 8 (.cons (.var 1) (.cons (.var 3) (.cons (.var 5) .nil)))))) .nop)
  (.ret (.bin .add (.bin .add (.var 4) (.var 5)) (.ite (.cmp .eq (.var 3) (.glb 1)) (.glb 6) (.glb 7))))))))))
/- 10 cost_of: 0 one 1 a 2 other 3 b 4 pitch 5 finger -/
def b_cost_of : St := (.seq (.forr (.tup (.cons (.nm 4) (.cons (.nm 5) .nil))) (.tup (.cons (.tup (.cons (.var 0) (.cons (.var 1) .nil))) (.cons (.tup (.cons (.var 2) (.cons (.var 3) .nil))) .nil))) (.seq (.ife (.not (.call 3 (.cons (.var 4) .nil))) (.rai 4 .nil) .nop)
  (.ife (.not (.call 4 (.cons (.var 5) .nil))) (.rai 1 .nil) .nop)))
  (.ret (.call 9 (.cons (.var 0) (.cons (.var 1) (.cons (.var 2) (.cons (.var 3) .nil)))))))
/- 11 are_fingers: 0 line 1 thing 2 one -/
def b_are_fingers : St := (.ret (.and (.call 2 (.cons (.var 1) (.cons (.bi .len (.cons (.var 0) .nil)) (.cons (.bi .len (.cons (.var 0) .nil)) .nil)))) (.bi .all (.cons (.comp (.nm 2) (.var 1) .nil (.call 4 (.cons (.var 2) .nil))) .nil))))
/- 12 raw_total: 0 line 1 fingers 2 total 3 at -/
def b_raw_total : St := (.seq (.set (.nm 2) (.call 7 (.cons (.idx (.var 0) (.int 0)) (.cons (.idx (.var 1) (.int 0)) .nil))))
  (.seq (.forr (.nm 3) (.rng (.int 1) (.bi .len (.cons (.var 0) .nil))) (.aug 2 .add (.call 9 (.cons (.idx (.var 0) (.bin .sub (.var 3) (.int 1))) (.cons (.idx (.var 1) (.bin .sub (.var 3) (.int 1))) (.cons (.idx (.var 0) (.var 3)) (.cons (.idx (.var 1) (.var 3)) .nil)))))))
  (.ret (.var 2))))
/- 13 fingering_cost: 0 line 1 fingers -/
def b_fingering_cost : St := (.seq (.exp (.call 6 (.cons (.var 0) .nil)))
  (.seq (.ife (.not (.call 11 (.cons (.var 0) (.cons (.var 1) .nil)))) (.rai 2 .nil) .nop)
  (.ret (.call 12 (.cons (.var 0) (.cons (.var 1) .nil))))))
/- 14 _law_hand: 0 script 1 cells 2 cell -/
def b__law_hand : St := (.seq (.set (.nm 1) (.comp (.nm 2) (.scs 0 .nil (.int 63)) .nil (.bi .abs (.cons (.bi .int (.cons (.var 2) .nil)) .nil))))
  (.ret (.lst (.cons (.var 1) (.cons (.int 0) (.cons (.int 0) (.cons (.bin .add (.int 97) (.bin .mul (.int 13) (.bi .len (.cons (.var 1) .nil)))) (.cons (.int 0) .nil))))))))
/- 15 _law_draw: 0 hand 1 many 2 number 3 cell 4 digit -/
def b__law_draw : St := (.seq (.ife (.and (.cmp .eq (.tix 0 (.int 2)) (.int 0)) (.cmp .lt (.tix 0 (.int 1)) (.bi .len (.cons (.tix 0 (.int 0)) .nil)))) (.seq (.set (.nm 3) (.idx (.tix 0 (.int 0)) (.tix 0 (.int 1))))
  (.seq (.tst 0 (.int 1) (.bin .add (.tix 0 (.int 1)) (.int 1)))
  (.seq (.tst 0 (.int 3) (.bin .mod (.bi .int (.cons (.bin .add (.bin .add (.bin .mul (.tix 0 (.int 3)) (.int 69621)) (.bin .mul (.var 3) (.int 40692))) (.int 31)) .nil)) (.int 2147483629)))
  (.ife (.cmp .ge (.var 3) (.bin .pow (.int 10) (.int 18))) (.tst 0 (.int 2) (.var 3)) .nop)))) .nop)
  (.seq (.ife (.cmp .gt (.tix 0 (.int 2)) (.int 0)) (.seq (.set (.nm 4) (.bin .mod (.bi .int (.cons (.tix 0 (.int 2)) .nil)) (.var 1)))
  (.seq (.tst 0 (.int 2) (.bin .fdiv (.tix 0 (.int 2)) (.var 1)))
  (.ret (.var 4)))) .nop)
  (.seq (.tst 0 (.int 4) (.bin .add (.tix 0 (.int 4)) (.int 1)))
  (.seq (.set (.nm 2) (.bin .mod (.bi .int (.cons (.bin .mul (.bi .int (.cons (.bin .add (.tix 0 (.int 3)) (.bin .mul (.int 7919) (.tix 0 (.int 4)))) .nil)) (.int 48271)) .nil)) (.int 2147483647)))
  (.seq (.set (.nm 2) (.bin .mod (.bi .int (.cons (.bin .mul (.var 2) (.bin .add (.bin .fdiv (.var 2) (.int 1009)) (.int 69621))) .nil)) (.int 2147483647)))
  (.seq (.set (.nm 2) (.bin .mod (.bi .int (.cons (.bin .mul (.var 2) (.bin .add (.bin .fdiv (.var 2) (.int 2003)) (.int 40014))) .nil)) (.int 2147483563)))
  (.ret (.bin .mod (.bi .int (.cons (.bin .fdiv (.var 2) (.int 16)) .nil)) (.var 1)))))))))
/- 16 _law_any: 0 hand 1 some -/
def b__law_any : St := (.ret (.idx (.var 1) (.call 15 (.cons (.tpv 0) (.cons (.bi .len (.cons (.var 1) .nil)) .nil)))))
/- 17 _law_is: 0 given 1 due 2 one 3 other -/
def b__law_is : St := (.seq (.ife (.or (.isn (.var 1)) (.isn (.var 0))) (.ret (.and (.isn (.var 1)) (.isn (.var 0)))) .nop)
  (.seq (.ife (.isi (.var 1) [.tuple, .list]) (.seq (.ife (.cmp .ne (.isi (.var 0) [.tuple]) (.isi (.var 1) [.tuple])) (.ret (.bl false)) .nop)
  (.seq (.ife (.cmp .ne (.isi (.var 0) [.list]) (.isi (.var 1) [.list])) (.ret (.bl false)) .nop)
  (.ret (.and (.cmp .eq (.bi .len (.cons (.var 0) .nil)) (.bi .len (.cons (.var 1) .nil))) (.bi .all (.cons (.comp (.tup (.cons (.nm 2) (.cons (.nm 3) .nil))) (.zip (.var 0) (.var 1)) .nil (.call 17 (.cons (.var 2) (.cons (.var 3) .nil)))) .nil)))))) .nop)
  (.seq (.ife (.or (.cmp .ne (.isi (.var 0) [.bool]) (.isi (.var 1) [.bool])) (.cmp .ne (.isi (.var 0) [.int]) (.isi (.var 1) [.int]))) (.ret (.bl false)) .nop)
  (.ret (.and (.cmp .eq (.isi (.var 0) [.str]) (.isi (.var 1) [.str])) (.cmp .eq (.var 0) (.var 1)))))))
/- 18 _law_word: 0 call 1 found 2 e 3 flags -/
def b__law_word : St := (.seq (.set (.nm 1) (.str "!other"))
  (.seq (.trya 1 2 (.seq (.set (.nm 3) (.lst (.cons (.isx 2 1) (.cons (.isx 2 2) (.cons (.isx 2 3) .nil)))))
  (.seq (.app 3 (.isx 2 4))
  (.ife (.and (.cmp .eq (.met .count (.var 3) (.cons (.bl true) .nil)) (.int 1)) (.isx 2 1000)) (.set (.nm 1) (.idx (.lst (.cons (.str "!NoFinger") (.cons (.str "!NoFingers") (.cons (.str "!NoLine") (.cons (.str "!NoPitch") .nil))))) (.met .index (.var 3) (.cons (.bl true) .nil)))) .nop))))
  (.ret (.var 1))))
/- 19 _law_is_black: 0 pitch -/
def b__law_is_black : St := (.ret (.cmp .mem (.bin .mod (.bi .int (.cons (.var 0) .nil)) (.int 12)) (.tup (.cons (.int 1) (.cons (.int 3) (.cons (.int 6) (.cons (.int 8) (.cons (.int 10) .nil))))))))
/- 20 _law_cost: 0 one 1 a 2 other 3 b 4 more 5 far 6 first 7 last 8 low 9 high -/
def b__law_cost : St := (.seq (.set (.nm 4) (.ite (.and (.cmp .eq (.var 3) (.int 1)) (.call 19 (.cons (.var 2) .nil))) (.int 1) (.int 0)))
  (.seq (.ife (.cmp .eq (.var 0) (.var 2)) (.ret (.bin .add (.var 4) (.ite (.cmp .eq (.var 1) (.var 3)) (.int 0) (.int 2)))) .nop)
  (.seq (.ife (.cmp .eq (.var 1) (.var 3)) (.ret (.bin .add (.var 4) (.int 8))) .nop)
  (.seq (.set (.nm 5) (.bi .abs (.cons (.bin .sub (.var 2) (.var 0)) .nil)))
  (.seq (.set (.tup (.cons (.nm 6) (.cons (.nm 7) .nil))) (.ite (.cmp .gt (.var 2) (.var 0)) (.tup (.cons (.var 1) (.cons (.var 3) .nil))) (.tup (.cons (.var 3) (.cons (.var 1) .nil)))))
  (.seq (.ife (.cmp .gt (.var 6) (.var 7)) (.ret (.bin .add (.bin .add (.var 4) (.var 5)) (.ite (.cmp .eq (.var 7) (.int 1)) (.int 1) (.int 6)))) .nop)
  (.seq (.par 8 9 (.bin .sub (.var 7) (.var 6)) (.bin .add (.bin .mul (.int 2) (.bin .sub (.var 7) (.var 6))) (.int 1)))
  (.seq (.ife (.cmp .eq (.var 6) (.int 1)) (.par 8 9 (.int 1) (.bin .add (.var 9) (.int 2))) .nop)
  (.ret (.bin .add (.var 4) (.bi .max (.cons (.int 0) (.cons (.bin .sub (.var 8) (.var 5)) (.cons (.bin .sub (.var 5) (.var 9)) .nil))))))))))))))
/- 21 _law_begin: 0 pitch 1 finger -/
def b__law_begin : St := (.ret (.ite (.and (.cmp .eq (.var 1) (.int 1)) (.call 19 (.cons (.var 0) .nil))) (.int 1) (.int 0)))
/- 22 _law_total: 0 line 1 fingers 2 found 3 at -/
def b__law_total : St := (.seq (.set (.nm 2) (.call 21 (.cons (.idx (.var 0) (.int 0)) (.cons (.idx (.var 1) (.int 0)) .nil))))
  (.seq (.forr (.nm 3) (.rng (.int 1) (.bi .len (.cons (.var 0) .nil))) (.set (.nm 2) (.bin .add (.var 2) (.call 20 (.cons (.idx (.var 0) (.bin .sub (.var 3) (.int 1))) (.cons (.idx (.var 1) (.bin .sub (.var 3) (.int 1))) (.cons (.idx (.var 0) (.var 3)) (.cons (.idx (.var 1) (.var 3)) .nil))))))))
  (.ret (.var 2))))
/- 23 _law_line: 0 hand 1 most 2 found 3 turn 4 goal -/
def b__law_line : St := (.seq (.set (.nm 2) (.tup (.cons (.call 15 (.cons (.tpv 0) (.cons (.int 108) .nil))) .nil)))
  (.seq (.forr (.nm 3) (.rng (.int 0) (.call 15 (.cons (.tpv 0) (.cons (.var 1) .nil)))) (.seq (.set (.nm 4) (.bin .add (.idx (.var 2) (.neg (.int 1))) (.call 16 (.cons (.tpv 0) (.cons (.lst (.cons (.int 0) (.cons (.int 1) (.cons (.int 2) (.cons (.neg (.int 1)) (.cons (.neg (.int 2)) (.cons (.int 3) (.cons (.neg (.int 4)) (.cons (.int 7) (.cons (.bin .sub (.call 15 (.cons (.tpv 0) (.cons (.int 25) .nil))) (.int 12)) .nil)))))))))) .nil)))))
  (.set (.nm 2) (.bin .add (.var 2) (.tup (.cons (.bi .max (.cons (.int 0) (.cons (.bi .min (.cons (.int 107) (.cons (.var 4) .nil))) .nil))) .nil))))))
  (.ret (.var 2))))
/- 24 _law_two_right: 0 hand 1 one 2 other 3 a 4 b 5 told -/
def b__law_two_right : St := (.seq (.set (.nm 1) (.call 15 (.cons (.tpv 0) (.cons (.int 108) .nil))))
  (.seq (.set (.nm 2) (.bi .max (.cons (.int 0) (.cons (.bi .min (.cons (.int 107) (.cons (.bin .add (.var 1) (.call 16 (.cons (.tpv 0) (.cons (.lst (.cons (.int 0) (.cons (.bin .sub (.call 15 (.cons (.tpv 0) (.cons (.int 25) .nil))) (.int 12)) (.cons (.bin .sub (.call 15 (.cons (.tpv 0) (.cons (.int 7) .nil))) (.int 3)) .nil)))) .nil)))) .nil))) .nil))))
  (.seq (.forr (.nm 3) (.rng (.int 1) (.int 6)) (.forr (.nm 4) (.rng (.int 1) (.int 6)) (.seq (.set (.nm 5) (.call 10 (.cons (.var 1) (.cons (.var 3) (.cons (.var 2) (.cons (.var 4) .nil))))))
  (.seq (.ife (.or (.not (.call 17 (.cons (.var 5) (.cons (.call 20 (.cons (.var 1) (.cons (.var 3) (.cons (.var 2) (.cons (.var 4) .nil))))) .nil)))) (.cmp .lt (.var 5) (.int 0))) (.ret (.bl false)) .nop)
  (.ife (.and (.not (.call 19 (.cons (.var 1) .nil))) (.and (.not (.call 19 (.cons (.var 2) .nil))) (.cmp .ne (.call 10 (.cons (.var 2) (.cons (.var 4) (.cons (.var 1) (.cons (.var 3) .nil))))) (.var 5)))) (.ret (.bl false)) .nop)))))
  (.ret (.bl true)))))
/- 25 _law_line_right: 0 hand 1 line 2 fingers 3 total 4 spot 5 odd 6 at 7 parts 8 pitch -/
def b__law_line_right : St := (.seq (.set (.nm 1) (.call 23 (.cons (.tpv 0) (.cons (.int 8) .nil))))
  (.seq (.set (.nm 2) (.bi .tuple (.cons (.comp (.nm 8) (.var 1) .nil (.bin .add (.int 1) (.call 15 (.cons (.tpv 0) (.cons (.int 5) .nil))))) .nil)))
  (.seq (.set (.nm 3) (.call 22 (.cons (.var 1) (.cons (.var 2) .nil))))
  (.seq (.ife (.not (.call 17 (.cons (.call 13 (.cons (.var 1) (.cons (.var 2) .nil))) (.cons (.var 3) .nil)))) (.ret (.bl false)) .nop)
  (.seq (.ife (.cmp .gt (.bi .len (.cons (.var 1) .nil)) (.int 1)) (.seq (.set (.nm 6) (.bin .add (.int 1) (.call 15 (.cons (.tpv 0) (.cons (.bin .sub (.bi .len (.cons (.var 1) .nil)) (.int 1)) .nil)))))
  (.seq (.set (.nm 7) (.bin .add (.call 13 (.cons (.sli (.var 1) .nil (.var 6)) (.cons (.sli (.var 2) .nil (.var 6)) .nil))) (.call 13 (.cons (.sli (.var 1) (.var 6) .nil) (.cons (.sli (.var 2) (.var 6) .nil) .nil)))))
  (.seq (.set (.nm 7) (.bin .sub (.var 7) (.call 21 (.cons (.idx (.var 1) (.var 6)) (.cons (.idx (.var 2) (.var 6)) .nil)))))
  (.ife (.cmp .ne (.bin .add (.var 7) (.call 10 (.cons (.idx (.var 1) (.bin .sub (.var 6) (.int 1))) (.cons (.idx (.var 2) (.bin .sub (.var 6) (.int 1))) (.cons (.idx (.var 1) (.var 6)) (.cons (.idx (.var 2) (.var 6)) .nil)))))) (.var 3)) (.ret (.bl false)) .nop)))) .nop)
  (.seq (.set (.nm 4) (.call 15 (.cons (.tpv 0) (.cons (.bi .len (.cons (.var 1) .nil)) .nil))))
  (.seq (.set (.nm 5) (.lst (.cons .non (.cons (.tup .nil) (.cons (.bi .list (.cons (.var 2) .nil)) (.cons (.bin .add (.var 2) (.tup (.cons (.int 1) .nil))) (.cons (.bin .add (.bin .add (.sli (.var 2) .nil (.var 4)) (.tup (.cons (.int 0) .nil))) (.sli (.var 2) (.bin .add (.var 4) (.int 1)) .nil)) (.cons (.str "1") (.cons (.int 0) .nil)))))))))
  (.seq (.set (.nm 5) (.bin .add (.var 5) (.lst (.cons (.bin .add (.bin .add (.sli (.var 2) .nil (.var 4)) (.tup (.cons (.int 6) .nil))) (.sli (.var 2) (.bin .add (.var 4) (.int 1)) .nil)) (.cons (.bin .add (.bin .add (.sli (.var 2) .nil (.var 4)) (.tup (.cons (.bl true) .nil))) (.sli (.var 2) (.bin .add (.var 4) (.int 1)) .nil)) .nil)))))
  (.seq (.set (.nm 5) (.call 16 (.cons (.tpv 0) (.cons (.var 5) .nil))))
  (.ret (.cmp .eq (.call 18 (.cons (.lam (.call 13 (.cons (.var 1) (.cons (.var 5) .nil)))) .nil)) (.str "!NoFingers"))))))))))))
/- 26 _law_refused: 0 hand 1 bad 2 words 3 pitch 4 finger -/
def b__law_refused : St := (.seq (.set (.nm 1) (.call 16 (.cons (.tpv 0) (.cons (.lst (.cons .non (.cons (.tup .nil) (.cons (.lst (.cons (.int 60) .nil)) (.cons (.tup (.cons (.int 108) .nil)) (.cons (.tup (.cons (.neg (.int 1)) .nil)) (.cons (.tup (.cons (.bl true) .nil)) (.cons (.tup (.cons (.str "60") .nil)) (.cons (.bin .mul (.tup (.cons (.int 60) .nil)) (.int 25)) (.cons (.int 60) (.cons (.str "60") (.cons (.tup (.cons .non .nil)) .nil)))))))))))) .nil))))
  (.seq (.set (.tup (.cons (.nm 3) (.cons (.nm 4) .nil))) (.tup (.cons (.call 16 (.cons (.tpv 0) (.cons (.lst (.cons .non (.cons (.neg (.int 1)) (.cons (.int 108) (.cons (.bl true) (.cons (.str "60") .nil)))))) .nil))) (.cons (.call 16 (.cons (.tpv 0) (.cons (.lst (.cons .non (.cons (.int 0) (.cons (.int 6) (.cons (.bl true) (.cons (.str "1") (.cons (.neg (.int 1)) .nil))))))) .nil))) .nil))))
  (.seq (.set (.nm 2) (.lst (.cons (.call 18 (.cons (.lam (.call 10 (.cons (.var 3) (.cons (.var 4) (.cons (.var 3) (.cons (.var 4) .nil)))))) .nil)) .nil)))
  (.seq (.app 2 (.call 18 (.cons (.lam (.call 10 (.cons (.int 60) (.cons (.var 4) (.cons (.var 3) (.cons (.int 1) .nil)))))) .nil)))
  (.seq (.app 2 (.call 18 (.cons (.lam (.call 10 (.cons (.int 60) (.cons (.int 1) (.cons (.var 3) (.cons (.var 4) .nil)))))) .nil)))
  (.seq (.app 2 (.call 18 (.cons (.lam (.call 10 (.cons (.int 60) (.cons (.int 1) (.cons (.int 62) (.cons (.var 4) .nil)))))) .nil)))
  (.seq (.app 2 (.call 18 (.cons (.lam (.call 13 (.cons (.var 1) (.cons .non .nil)))) .nil)))
  (.ret (.cmp .eq (.var 2) (.lst (.cons (.str "!NoPitch") (.cons (.str "!NoFinger") (.cons (.str "!NoPitch") (.cons (.str "!NoFinger") (.cons (.str "!NoLine") .nil)))))))))))))))
/- 27 law: 0 script 1 hand 2 told 3 turn -/
def b_law : St := (.seq (.stp 1 (.call 14 (.cons (.scv 0) .nil)))
  (.seq (.set (.nm 2) (.lst (.cons (.call 10 (.cons (.int 60) (.cons (.int 1) (.cons (.int 62) (.cons (.int 2) .nil))))) (.cons (.call 10 (.cons (.int 60) (.cons (.int 3) (.cons (.int 65) (.cons (.int 1) .nil))))) (.cons (.call 10 (.cons (.int 60) (.cons (.int 2) (.cons (.int 61) (.cons (.int 1) .nil))))) (.cons (.call 10 (.cons (.int 64) (.cons (.int 2) (.cons (.int 60) (.cons (.int 3) .nil))))) .nil))))))
  (.seq (.set (.nm 2) (.bin .add (.var 2) (.lst (.cons (.call 10 (.cons (.int 60) (.cons (.int 2) (.cons (.int 67) (.cons (.int 3) .nil))))) (.cons (.call 10 (.cons (.int 60) (.cons (.int 4) (.cons (.int 60) (.cons (.int 4) .nil))))) (.cons (.call 10 (.cons (.int 60) (.cons (.int 4) (.cons (.int 60) (.cons (.int 1) .nil))))) .nil))))))
  (.seq (.set (.nm 2) (.bin .add (.var 2) (.lst (.cons (.call 10 (.cons (.int 60) (.cons (.int 2) (.cons (.int 62) (.cons (.int 2) .nil))))) (.cons (.call 13 (.cons (.tup (.cons (.int 61) (.cons (.int 62) .nil))) (.cons (.tup (.cons (.int 1) (.cons (.int 2) .nil))) .nil))) .nil)))))
  (.seq (.ife (.not (.call 17 (.cons (.var 2) (.cons (.lst (.cons (.int 0) (.cons (.int 6) (.cons (.int 3) (.cons (.int 10) (.cons (.int 4) (.cons (.int 0) (.cons (.int 2) (.cons (.int 8) (.cons (.int 1) .nil)))))))))) .nil)))) (.ret (.bl false)) .nop)
  (.seq (.ife (.not (.bi .all (.cons (.comp (.nm 3) (.rng (.int 0) (.int 6)) .nil (.call 24 (.cons (.tpv 1) .nil))) .nil))) (.ret (.bl false)) .nop)
  (.ret (.and (.call 26 (.cons (.tpv 1) .nil)) (.bi .all (.cons (.comp (.nm 3) (.rng (.int 0) (.int 6)) .nil (.call 25 (.cons (.tpv 1) .nil))) .nil))))))))))
def g_0 : Str × PyData := ("MOST_PITCH", (.int 107))
def g_1 : Str × PyData := ("THUMB", (.int 1))
def g_2 : Str × PyData := ("BLACK", (.tuple [(.int 1), (.int 3), (.int 6), (.int 8), (.int 10)]))
def g_3 : Str × PyData := ("MOST_LINE", (.int 24))
def g_4 : Str × PyData := ("AGAIN", (.int 2))
def g_5 : Str × PyData := ("SLIDE", (.int 8))
def g_6 : Str × PyData := ("UNDER", (.int 1))
def g_7 : Str × PyData := ("CROSSED", (.int 6))
def e_is_integer : Str × List Str × Bool := ("is_integer", ["thing"], false)
def e_is_within : Str × List Str × Bool := ("is_within", ["thing", "low", "high"], false)
def e_is_sized : Str × List Str × Bool := ("is_sized", ["thing", "low", "high"], false)
def e_is_pitch : Str × List Str × Bool := ("is_pitch", ["thing"], false)
def e_is_finger : Str × List Str × Bool := ("is_finger", ["thing"], false)
def e_is_line : Str × List Str × Bool := ("is_line", ["thing"], false)
def e_check_line : Str × List Str × Bool := ("check_line", ["line"], false)
def e_on_black : Str × List Str × Bool := ("on_black", ["pitch", "finger"], false)
def e_stretch_cost : Str × List Str × Bool := ("stretch_cost", ["a", "b", "far"], false)
def e_raw_cost : Str × List Str × Bool := ("raw_cost", ["one", "a", "other", "b"], false)
def e_cost_of : Str × List Str × Bool := ("cost_of", ["one", "a", "other", "b"], false)
def e_are_fingers : Str × List Str × Bool := ("are_fingers", ["line", "thing"], false)
def e_raw_total : Str × List Str × Bool := ("raw_total", ["line", "fingers"], false)
def e_fingering_cost : Str × List Str × Bool := ("fingering_cost", ["line", "fingers"], false)
def e__law_hand : Str × List Str × Bool := ("_law_hand", ["script"], false)
def e__law_draw : Str × List Str × Bool := ("_law_draw", ["hand", "many"], false)
def e__law_any : Str × List Str × Bool := ("_law_any", ["hand", "some"], false)
def e__law_is : Str × List Str × Bool := ("_law_is", ["given", "due"], false)
def e__law_word : Str × List Str × Bool := ("", ["call"], false)
def e__law_is_black : Str × List Str × Bool := ("_law_is_black", ["pitch"], false)
def e__law_cost : Str × List Str × Bool := ("_law_cost", ["one", "a", "other", "b"], false)
def e__law_begin : Str × List Str × Bool := ("_law_begin", ["pitch", "finger"], false)
def e__law_total : Str × List Str × Bool := ("_law_total", ["line", "fingers"], false)
def e__law_line : Str × List Str × Bool := ("_law_line", ["hand", "most"], false)
def e__law_two_right : Str × List Str × Bool := ("_law_two_right", ["hand"], false)
def e__law_line_right : Str × List Str × Bool := ("_law_line_right", ["hand"], false)
def e__law_refused : Str × List Str × Bool := ("_law_refused", ["hand"], false)
def T : Tab := ⟨[g_0, g_1, g_2, g_3, g_4, g_5, g_6, g_7], [e_is_integer, e_is_within, e_is_sized, e_is_pitch, e_is_finger, e_is_line, e_check_line, e_on_black, e_stretch_cost, e_raw_cost, e_cost_of, e_are_fingers, e_raw_total, e_fingering_cost, e__law_hand, e__law_draw, e__law_any, e__law_is, e__law_word, e__law_is_black, e__law_cost, e__law_begin, e__law_total, e__law_line, e__law_two_right, e__law_line_right, e__law_refused], some (18, "_law_word"), ["ToneError", "NoFinger", "NoFingers", "NoLine", "NoPitch"]⟩
def d_is_integer : FnD := { x := "is_integer", ps := ["thing"], N := ["thing"], g := false, lam := false, F := ⟨1, 1, b_is_integer⟩, params := L2.defArgs (top 1), body := L2.defBody (top 1), scope := L2.defScope (top 1) }
def d_is_within : FnD := { x := "is_within", ps := ["thing", "low", "high"], N := ["thing", "low", "high"], g := false, lam := false, F := ⟨3, 3, b_is_within⟩, params := L2.defArgs (top 2), body := L2.defBody (top 2), scope := L2.defScope (top 2) }
def d_is_sized : FnD := { x := "is_sized", ps := ["thing", "low", "high"], N := ["thing", "low", "high"], g := false, lam := false, F := ⟨3, 3, b_is_sized⟩, params := L2.defArgs (top 3), body := L2.defBody (top 3), scope := L2.defScope (top 3) }
def d_is_pitch : FnD := { x := "is_pitch", ps := ["thing"], N := ["thing"], g := false, lam := false, F := ⟨1, 1, b_is_pitch⟩, params := L2.defArgs (top 12), body := L2.defBody (top 12), scope := L2.defScope (top 12) }
def d_is_finger : FnD := { x := "is_finger", ps := ["thing"], N := ["thing"], g := false, lam := false, F := ⟨1, 1, b_is_finger⟩, params := L2.defArgs (top 21), body := L2.defBody (top 21), scope := L2.defScope (top 21) }
def d_is_line : FnD := { x := "is_line", ps := ["thing"], N := ["thing", "one"], g := false, lam := false, F := ⟨1, 2, b_is_line⟩, params := L2.defArgs (top 22), body := L2.defBody (top 22), scope := L2.defScope (top 22) }
def d_check_line : FnD := { x := "check_line", ps := ["line"], N := ["line"], g := false, lam := false, F := ⟨1, 1, b_check_line⟩, params := L2.defArgs (top 23), body := L2.defBody (top 23), scope := L2.defScope (top 23) }
def d_on_black : FnD := { x := "on_black", ps := ["pitch", "finger"], N := ["pitch", "finger"], g := false, lam := false, F := ⟨2, 2, b_on_black⟩, params := L2.defArgs (top 24), body := L2.defBody (top 24), scope := L2.defScope (top 24) }
def d_stretch_cost : FnD := { x := "stretch_cost", ps := ["a", "b", "far"], N := ["a", "b", "far", "low", "high"], g := false, lam := false, F := ⟨3, 5, b_stretch_cost⟩, params := L2.defArgs (top 25), body := L2.defBody (top 25), scope := L2.defScope (top 25) }
def d_raw_cost : FnD := { x := "raw_cost", ps := ["one", "a", "other", "b"], N := ["one", "a", "other", "b", "black", "far"], g := false, lam := false, F := ⟨4, 6, b_raw_cost⟩, params := L2.defArgs (top 26), body := L2.defBody (top 26), scope := L2.defScope (top 26) }
def d_cost_of : FnD := { x := "cost_of", ps := ["one", "a", "other", "b"], N := ["one", "a", "other", "b", "pitch", "finger"], g := false, lam := false, F := ⟨4, 6, b_cost_of⟩, params := L2.defArgs (top 27), body := L2.defBody (top 27), scope := L2.defScope (top 27) }
def d_are_fingers : FnD := { x := "are_fingers", ps := ["line", "thing"], N := ["line", "thing", "one"], g := false, lam := false, F := ⟨2, 3, b_are_fingers⟩, params := L2.defArgs (top 28), body := L2.defBody (top 28), scope := L2.defScope (top 28) }
def d_raw_total : FnD := { x := "raw_total", ps := ["line", "fingers"], N := ["line", "fingers", "total", "at"], g := false, lam := false, F := ⟨2, 4, b_raw_total⟩, params := L2.defArgs (top 29), body := L2.defBody (top 29), scope := L2.defScope (top 29) }
def d_fingering_cost : FnD := { x := "fingering_cost", ps := ["line", "fingers"], N := ["line", "fingers"], g := false, lam := false, F := ⟨2, 2, b_fingering_cost⟩, params := L2.defArgs (top 30), body := L2.defBody (top 30), scope := L2.defScope (top 30) }
def d__law_hand : FnD := { x := "_law_hand", ps := ["script"], N := ["script", "cells", "cell"], g := false, lam := false, F := ⟨1, 3, b__law_hand⟩, params := L2.defArgs (top 32), body := L2.defBody (top 32), scope := L2.defScope (top 32) }
def d__law_draw : FnD := { x := "_law_draw", ps := ["hand", "many"], N := ["hand", "many", "number", "cell", "digit"], g := false, lam := false, F := ⟨2, 5, b__law_draw⟩, params := L2.defArgs (top 33), body := L2.defBody (top 33), scope := L2.defScope (top 33) }
def d__law_any : FnD := { x := "_law_any", ps := ["hand", "some"], N := ["hand", "some"], g := false, lam := false, F := ⟨2, 2, b__law_any⟩, params := L2.defArgs (top 34), body := L2.defBody (top 34), scope := L2.defScope (top 34) }
def d__law_is : FnD := { x := "_law_is", ps := ["given", "due"], N := ["given", "due", "one", "other"], g := false, lam := false, F := ⟨2, 4, b__law_is⟩, params := L2.defArgs (top 35), body := L2.defBody (top 35), scope := L2.defScope (top 35) }
def d__law_word : FnD := { x := "_law_word", ps := ["call"], N := ["call", "found", "e", "flags"], g := false, lam := false, F := ⟨1, 4, b__law_word⟩, params := L2.defArgs (top 36), body := L2.defBody (top 36), scope := L2.defScope (top 36) }
def d__law_is_black : FnD := { x := "_law_is_black", ps := ["pitch"], N := ["pitch"], g := false, lam := false, F := ⟨1, 1, b__law_is_black⟩, params := L2.defArgs (top 37), body := L2.defBody (top 37), scope := L2.defScope (top 37) }
def d__law_cost : FnD := { x := "_law_cost", ps := ["one", "a", "other", "b"], N := ["one", "a", "other", "b", "more", "far", "first", "last", "low", "high"], g := false, lam := false, F := ⟨4, 10, b__law_cost⟩, params := L2.defArgs (top 38), body := L2.defBody (top 38), scope := L2.defScope (top 38) }
def d__law_begin : FnD := { x := "_law_begin", ps := ["pitch", "finger"], N := ["pitch", "finger"], g := false, lam := false, F := ⟨2, 2, b__law_begin⟩, params := L2.defArgs (top 39), body := L2.defBody (top 39), scope := L2.defScope (top 39) }
def d__law_total : FnD := { x := "_law_total", ps := ["line", "fingers"], N := ["line", "fingers", "found", "at"], g := false, lam := false, F := ⟨2, 4, b__law_total⟩, params := L2.defArgs (top 40), body := L2.defBody (top 40), scope := L2.defScope (top 40) }
def d__law_line : FnD := { x := "_law_line", ps := ["hand", "most"], N := ["hand", "most", "found", "turn", "goal"], g := false, lam := false, F := ⟨2, 5, b__law_line⟩, params := L2.defArgs (top 41), body := L2.defBody (top 41), scope := L2.defScope (top 41) }
def d__law_two_right : FnD := { x := "_law_two_right", ps := ["hand"], N := ["hand", "one", "other", "a", "b", "told"], g := false, lam := false, F := ⟨1, 6, b__law_two_right⟩, params := L2.defArgs (top 42), body := L2.defBody (top 42), scope := L2.defScope (top 42) }
def d__law_line_right : FnD := { x := "_law_line_right", ps := ["hand"], N := ["hand", "line", "fingers", "total", "spot", "odd", "at", "parts", "pitch"], g := false, lam := true, F := ⟨1, 9, b__law_line_right⟩, params := L2.defArgs (top 43), body := L2.defBody (top 43), scope := L2.defScope (top 43) }
def d__law_refused : FnD := { x := "_law_refused", ps := ["hand"], N := ["hand", "bad", "words", "pitch", "finger"], g := false, lam := true, F := ⟨1, 5, b__law_refused⟩, params := L2.defArgs (top 44), body := L2.defBody (top 44), scope := L2.defScope (top 44) }
def d_law : FnD := { x := "law", ps := ["script"], N := ["script", "hand", "told", "turn"], g := false, lam := false, F := ⟨1, 4, b_law⟩, params := L2.defArgs (top 45), body := L2.defBody (top 45), scope := L2.defScope (top 45) }
theorem s_is_integer : DfS T d_is_integer := ⟨fun _ _ _ _ _ _ us hl => match us, hl with | [_], _ => rfl, ⟨rfl, rfl, rfl, by decide +kernel, rfl, by decide +kernel, by decide +kernel⟩, rfl, rfl, by decide +kernel⟩
theorem s_is_within : DfS T d_is_within := ⟨fun _ _ _ _ _ _ us hl => match us, hl with | [_, _, _], _ => rfl, ⟨rfl, rfl, rfl, by decide +kernel, rfl, by decide +kernel, by decide +kernel⟩, rfl, rfl, by decide +kernel⟩
theorem s_is_sized : DfS T d_is_sized := ⟨fun _ _ _ _ _ _ us hl => match us, hl with | [_, _, _], _ => rfl, ⟨rfl, rfl, rfl, by decide +kernel, rfl, by decide +kernel, by decide +kernel⟩, rfl, rfl, by decide +kernel⟩
theorem s_is_pitch : DfS T d_is_pitch := ⟨fun _ _ _ _ _ _ us hl => match us, hl with | [_], _ => rfl, ⟨rfl, rfl, rfl, by decide +kernel, rfl, by decide +kernel, by decide +kernel⟩, rfl, rfl, by decide +kernel⟩
theorem s_is_finger : DfS T d_is_finger := ⟨fun _ _ _ _ _ _ us hl => match us, hl with | [_], _ => rfl, ⟨rfl, rfl, rfl, by decide +kernel, rfl, by decide +kernel, by decide +kernel⟩, rfl, rfl, by decide +kernel⟩
theorem s_is_line : DfS T d_is_line := ⟨fun _ _ _ _ _ _ us hl => match us, hl with | [_], _ => rfl, ⟨rfl, rfl, rfl, by decide +kernel, rfl, by decide +kernel, by decide +kernel⟩, rfl, rfl, by decide +kernel⟩
theorem s_check_line : DfS T d_check_line := ⟨fun _ _ _ _ _ _ us hl => match us, hl with | [_], _ => rfl, ⟨rfl, rfl, rfl, by decide +kernel, rfl, by decide +kernel, by decide +kernel⟩, rfl, rfl, by decide +kernel⟩
theorem s_on_black : DfS T d_on_black := ⟨fun _ _ _ _ _ _ us hl => match us, hl with | [_, _], _ => rfl, ⟨rfl, rfl, rfl, by decide +kernel, rfl, by decide +kernel, by decide +kernel⟩, rfl, rfl, by decide +kernel⟩
theorem s_stretch_cost : DfS T d_stretch_cost := ⟨fun _ _ _ _ _ _ us hl => match us, hl with | [_, _, _], _ => rfl, ⟨rfl, rfl, rfl, by decide +kernel, rfl, by decide +kernel, by decide +kernel⟩, rfl, rfl, by decide +kernel⟩
theorem s_raw_cost : DfS T d_raw_cost := ⟨fun _ _ _ _ _ _ us hl => match us, hl with | [_, _, _, _], _ => rfl, ⟨rfl, rfl, rfl, by decide +kernel, rfl, by decide +kernel, by decide +kernel⟩, rfl, rfl, by decide +kernel⟩
theorem s_cost_of : DfS T d_cost_of := ⟨fun _ _ _ _ _ _ us hl => match us, hl with | [_, _, _, _], _ => rfl, ⟨rfl, rfl, rfl, by decide +kernel, rfl, by decide +kernel, by decide +kernel⟩, rfl, rfl, by decide +kernel⟩
theorem s_are_fingers : DfS T d_are_fingers := ⟨fun _ _ _ _ _ _ us hl => match us, hl with | [_, _], _ => rfl, ⟨rfl, rfl, rfl, by decide +kernel, rfl, by decide +kernel, by decide +kernel⟩, rfl, rfl, by decide +kernel⟩
theorem s_raw_total : DfS T d_raw_total := ⟨fun _ _ _ _ _ _ us hl => match us, hl with | [_, _], _ => rfl, ⟨rfl, rfl, rfl, by decide +kernel, rfl, by decide +kernel, by decide +kernel⟩, rfl, rfl, by decide +kernel⟩
theorem s_fingering_cost : DfS T d_fingering_cost := ⟨fun _ _ _ _ _ _ us hl => match us, hl with | [_, _], _ => rfl, ⟨rfl, rfl, rfl, by decide +kernel, rfl, by decide +kernel, by decide +kernel⟩, rfl, rfl, by decide +kernel⟩
theorem s__law_hand : DfS T d__law_hand := ⟨fun _ _ _ _ _ _ us hl => match us, hl with | [_], _ => rfl, ⟨rfl, rfl, rfl, by decide +kernel, rfl, by decide +kernel, by decide +kernel⟩, rfl, rfl, by decide +kernel⟩
theorem s__law_draw : DfS T d__law_draw := ⟨fun _ _ _ _ _ _ us hl => match us, hl with | [_, _], _ => rfl, ⟨rfl, rfl, rfl, by decide +kernel, rfl, by decide +kernel, by decide +kernel⟩, rfl, rfl, by decide +kernel⟩
theorem s__law_any : DfS T d__law_any := ⟨fun _ _ _ _ _ _ us hl => match us, hl with | [_, _], _ => rfl, ⟨rfl, rfl, rfl, by decide +kernel, rfl, by decide +kernel, by decide +kernel⟩, rfl, rfl, by decide +kernel⟩
theorem s__law_is : DfS T d__law_is := ⟨fun _ _ _ _ _ _ us hl => match us, hl with | [_, _], _ => rfl, ⟨rfl, rfl, rfl, by decide +kernel, rfl, by decide +kernel, by decide +kernel⟩, rfl, rfl, by decide +kernel⟩
theorem s__law_word : WdS T d__law_word "call" := ⟨fun _ _ _ _ _ _ us hl => match us, hl with | [_], _ => rfl, ⟨rfl, rfl, rfl, by decide +kernel, rfl, by decide +kernel, by decide +kernel⟩, rfl, rfl, .inl (by decide +kernel), by decide +kernel, by decide +kernel, by decide +kernel, rfl, rfl, rfl, rfl, nexS_ok (by decide +kernel), by decide +kernel⟩
theorem s__law_is_black : DfS T d__law_is_black := ⟨fun _ _ _ _ _ _ us hl => match us, hl with | [_], _ => rfl, ⟨rfl, rfl, rfl, by decide +kernel, rfl, by decide +kernel, by decide +kernel⟩, rfl, rfl, by decide +kernel⟩
theorem s__law_cost : DfS T d__law_cost := ⟨fun _ _ _ _ _ _ us hl => match us, hl with | [_, _, _, _], _ => rfl, ⟨rfl, rfl, rfl, by decide +kernel, rfl, by decide +kernel, by decide +kernel⟩, rfl, rfl, by decide +kernel⟩
theorem s__law_begin : DfS T d__law_begin := ⟨fun _ _ _ _ _ _ us hl => match us, hl with | [_, _], _ => rfl, ⟨rfl, rfl, rfl, by decide +kernel, rfl, by decide +kernel, by decide +kernel⟩, rfl, rfl, by decide +kernel⟩
theorem s__law_total : DfS T d__law_total := ⟨fun _ _ _ _ _ _ us hl => match us, hl with | [_, _], _ => rfl, ⟨rfl, rfl, rfl, by decide +kernel, rfl, by decide +kernel, by decide +kernel⟩, rfl, rfl, by decide +kernel⟩
theorem s__law_line : DfS T d__law_line := ⟨fun _ _ _ _ _ _ us hl => match us, hl with | [_, _], _ => rfl, ⟨rfl, rfl, rfl, by decide +kernel, rfl, by decide +kernel, by decide +kernel⟩, rfl, rfl, by decide +kernel⟩
theorem s__law_two_right : DfS T d__law_two_right := ⟨fun _ _ _ _ _ _ us hl => match us, hl with | [_], _ => rfl, ⟨rfl, rfl, rfl, by decide +kernel, rfl, by decide +kernel, by decide +kernel⟩, rfl, rfl, by decide +kernel⟩
theorem s__law_line_right : DfS T d__law_line_right := ⟨fun _ _ _ _ _ _ us hl => match us, hl with | [_], _ => rfl, ⟨rfl, rfl, rfl, by decide +kernel, rfl, by decide +kernel, by decide +kernel⟩, rfl, rfl, by decide +kernel⟩
theorem s__law_refused : DfS T d__law_refused := ⟨fun _ _ _ _ _ _ us hl => match us, hl with | [_], _ => rfl, ⟨rfl, rfl, rfl, by decide +kernel, rfl, by decide +kernel, by decide +kernel⟩, rfl, rfl, by decide +kernel⟩
theorem s_law : LdS T d_law "script" := ⟨fun _ _ _ _ _ _ us hl => match us, hl with | [_], _ => rfl, ⟨rfl, rfl, rfl, by decide +kernel, rfl, by decide +kernel, by decide +kernel⟩, rfl, rfl, by decide +kernel⟩
def L : LwD := ⟨T, [d_is_integer, d_is_within, d_is_sized, d_is_pitch, d_is_finger, d_is_line, d_check_line, d_on_black, d_stretch_cost, d_raw_cost, d_cost_of, d_are_fingers, d_raw_total, d_fingering_cost, d__law_hand, d__law_draw, d__law_any, d__law_is, d__law_word, d__law_is_black, d__law_cost, d__law_begin, d__law_total, d__law_line, d__law_two_right, d__law_line_right, d__law_refused], d_law, 100000⟩
theorem pk : PairOk T T.fns L.defs := ⟨fun _ => ⟨rfl, rfl, s_is_integer⟩, ⟨fun _ => ⟨rfl, rfl, s_is_within⟩, ⟨fun _ => ⟨rfl, rfl, s_is_sized⟩, ⟨fun _ => ⟨rfl, rfl, s_is_pitch⟩, ⟨fun _ => ⟨rfl, rfl, s_is_finger⟩, ⟨fun _ => ⟨rfl, rfl, s_is_line⟩, ⟨fun _ => ⟨rfl, rfl, s_check_line⟩, ⟨fun _ => ⟨rfl, rfl, s_on_black⟩, ⟨fun _ => ⟨rfl, rfl, s_stretch_cost⟩, ⟨fun _ => ⟨rfl, rfl, s_raw_cost⟩, ⟨fun _ => ⟨rfl, rfl, s_cost_of⟩, ⟨fun _ => ⟨rfl, rfl, s_are_fingers⟩, ⟨fun _ => ⟨rfl, rfl, s_raw_total⟩, ⟨fun _ => ⟨rfl, rfl, s_fingering_cost⟩, ⟨fun _ => ⟨rfl, rfl, s__law_hand⟩, ⟨fun _ => ⟨rfl, rfl, s__law_draw⟩, ⟨fun _ => ⟨rfl, rfl, s__law_any⟩, ⟨fun _ => ⟨rfl, rfl, s__law_is⟩, ⟨fun h => absurd rfl h, ⟨fun _ => ⟨rfl, rfl, s__law_is_black⟩, ⟨fun _ => ⟨rfl, rfl, s__law_cost⟩, ⟨fun _ => ⟨rfl, rfl, s__law_begin⟩, ⟨fun _ => ⟨rfl, rfl, s__law_total⟩, ⟨fun _ => ⟨rfl, rfl, s__law_line⟩, ⟨fun _ => ⟨rfl, rfl, s__law_two_right⟩, ⟨fun _ => ⟨rfl, rfl, s__law_line_right⟩, ⟨fun _ => ⟨rfl, rfl, s__law_refused⟩, True.intro⟩⟩⟩⟩⟩⟩⟩⟩⟩⟩⟩⟩⟩⟩⟩⟩⟩⟩⟩⟩⟩⟩⟩⟩⟩⟩⟩
theorem wd : ∀ (f : Nat) (x : Str), T.lw = some (f, x) → ∃ d a, WdS T d a ∧ d.x = x ∧ L.defs[f]? = some d := fun f x h => by
  cases h
  exact ⟨d__law_word, _, s__law_word, rfl, rfl⟩
def loose0 : List Str := ["MOST_PITCH", "THUMB", "BLACK", "MOST_LINE", "AGAIN", "SLIDE", "UNDER", "CROSSED", "ToneError", "NoFinger", "NoFingers", "NoLine", "NoPitch", "is_integer", "is_within", "is_sized", "is_pitch", "is_finger", "is_line", "check_line", "on_black", "stretch_cost", "raw_cost", "cost_of", "are_fingers", "raw_total", "fingering_cost", "_law_hand", "_law_draw", "_law_any"]
def loose1 : List Str := ["_law_is", "_law_word", "_law_is_black", "_law_cost", "_law_begin", "_law_total", "_law_line", "_law_two_right", "_law_line_right", "_law_refused"]
def loose : List Str := loose0 ++ loose1
abbrev R : PySem.W.OpenRow := PySem.W.OpenLaw.row rw
abbrev hk : PySem.W.Hook := L.hook 3
def ob (s : PySem.W.SharedT) : He.AlX := He.obsX 3 [] L.fn [] L.tf L.ex (HandSHeadRun.getT s)
theorem ob_eq (s : PySem.W.SharedT) : ob s = hk.obs s.abs := He.obsX_eq (HandSHeadRun.getT_eq s)
theorem run (w : World) : HandSHeadRun.RunEq R (PySem.W.view R.prog [45]) hk ob 6000 loose w := by
  intro os
  kernel_rfl
end K76
namespace K76
open PySem PySem.W PySem.Calls PyProof.Rows Ev
theorem holds_of {lv : Nat} (hr : L2.Room (lv + 2) callerA) (hok : ∀ ns : List Int, ns.length ≤ 63 → (∀ z ∈ ns, Builtin.Int.intBits z ≤ 1048576) → ∃ m t, lawEv (cal L.gl L.fns L.wf lv) L.law.F ns = .rt (.bool true) m t) : rw.Holds := by
  w_on; o_law
  refine HandSHeadRun.head_any (r := OpenLaw.row rw) (q := view (OpenLaw.row rw).prog [45]) (H := hk) (ob := ob) (M := 6000) (loose := loose) (d := HandSHeadRun.topDef (OpenLaw.row rw).prog 45) (kwd := []) ob_eq
    (by kernel_rfl) (fun s => by kernel_rfl) run (by kernel_rfl) (by kernel_rfl) (by kernel_rfl) (by rfl) (by first | assumption | decide +kernel) (by decide +kernel) ⟨rfl, rfl, rfl, rfl, rfl, by decide +kernel⟩ ?hw ?hc
  case hw => w_witness2
  case hc => exact row_walk (l := rw) rfl (by kernel_rfl) (by kernel_rfl) hr s_law pk wd hok
end K76


set_option Elab.async false
set_option linter.all false
set_option maxRecDepth 100000
set_option maxHeartbeats 4000000
namespace K76
open PySem Ev
local macro_rules | `(tactic| walk_at "ev") => `(tactic| ((try simp only [WO_seq, WO_set, WO_ret, WO_ife, WO_exp, WO_forr, WO_nop, WO_retn, WO_par, WO_if, WO_nx, WO_rt, WO_tst, W_bind, W_ok, W_some, W_none, W_lift, W_if, W_quiet, vs_var, vR_var, vs_non, vR_non, vs_bl, vR_bl, vs_int, vR_int, vs_str, vR_str, vs_glb, vR_glb, vs_scs, vR_scs, vs_tup, vR_tup, vs_lst, vR_lst, vs_dic, vR_dic, vs_bin, vR_bin, vs_neg, vR_neg, vs_not, vR_not, vs_and, vR_and, vs_or, vR_or, vs_cmp, vR_cmp, vs_cm2, vR_cm2, vs_isn, vR_isn, vs_nsn, vR_nsn, vs_ite, vs_idx, vR_idx, vs_tix, vR_tix, vs_sli, vR_sli, vs_rev, vR_rev, vs_call, vs_bi, vR_bi, vs_isi, vR_isi, vs_met, vR_met, vs_comp, vR_comp, vs_dcom, vR_dcom, vs_comp2, vR_comp2, vs_rng, vR_rng, vs_rn3, vR_rn3, vs_enu, vR_enu, vs_zip, vR_zip, vs_vals, vR_vals, vs_its, vR_its, vs_lof, vR_lof, vs_act, vR_act, vs_isx, vR_isx, vs_plc, vR_plc, vs_srt, vR_srt, vs_rv2, vR_rv2, vs_tof, vR_tof, vs_gix, vR_gix, vs_nil, vs_tpv, vs_scv, vs_lam, vR_call, vR_ite, gv_0, gv_s, ix_l0, ix_l1, ix_l2, ix_l3, ix_l4, ix_l5, ix_l6, ix_l7, ix_t0, ix_t1, ix_t2, ix_t3, ix_t4, ix_t5, ix_t6, ix_t7, st_l0, st_l1, st_l2, st_l3, st_l4, tr_b, tr_i, cm_eq, cm_ne, cm_lt, cm_gt, cm_le, cm_ge, bn_add, bn_sub, bi_int, bi_lenl, bi_lent, al_nil, al_cons, fx_i, fx_b, fx_s, fx_n, fx_l, fx_t, fx_d, mu_i, mu_b, mu_s, mu_n, mu_t, mu_l, mu_d, co_i, co_b, co_s, co_n, co_t, co_l, co_d, se_0, se_s, ex_some, Option.map_some, Option.bind_some, Bool.false_eq_true, if_false, if_true, decide_eq_true_eq, Bool.and_false, Bool.false_and, Bool.and_true, Bool.true_and, Bool.or_false, Bool.false_or, Ev.fresh, ownV, bd_ok, lift_some, part_t, part_f, test_t, test_f, as_i, isNil, blank, slotsP, isTy, List.any_cons, List.any_nil, Bool.not_true, Bool.not_false, List.map_cons, List.map_nil, List.cons_append, List.nil_append, List.replicate_succ, List.replicate_zero, Nat.reduceSub, and_self, and_true, true_and, Int.reduceSub, Int.reduceAdd, Int.reduceNeg, Int.reduceMul, Int.reduceLT, Int.reduceLE, decide_true, decide_false, not_true_eq_false, not_false_eq_true, Prod.mk.injEq, bn_mod, bn_fdiv', bn_mull, bn_mulr, bi_max3, bi_max2, bi_min2, bi_abs, bi_bool, cm_mem, cm_nmem, Int.reducePow, WO_app, own_eq, fl_0, fl_s, setD_eq, fz, retE, ev_var, ev_non, ev_bl, ev_int, ev_str, ev_glb, ev_tup, ev_lst, ev_dic, ev_bin, ev_neg, ev_not, ev_and, ev_or, ev_cmp, ev_cm2, ev_isn, ev_nsn, ev_ite, ev_idx, ev_tix, ev_scs, ev_sli, ev_rev, ev_call, ev_isi, ev_met, ev_gix, ev_lof, ev_tof, ev_rv2, ev_act, ev_isx, ev_plc, ev_rng, ev_rn3, ev_enu, ev_zip, ev_vals, ev_its, ev_comp, ev_comp2, ev_dcom, ev_srt, asg_nm, asg_tt, asg_tl, asgs_nil, asgs_cons, ev_bi, fx_nil, WO_stp, fr_1, fr_2, fr_3, fr_4, fr_5, fr_6, fr_7, fr_8, fr_9, fr_10, fr_11, fr_12, fr_13, fr_14, fr_15, fr_16, lfz_app, List.append_nil, WO_aug, WO_trya, WO_tryl, augD, bd_exc, gd_0, gd_s, cb_eq, cb_ne, WO_fnil, WO_fcons]); repeat ((first | refine Wn_mk ?_ | refine Wf_mk ?_); try simp only [WO_seq, WO_set, WO_ret, WO_ife, WO_exp, WO_forr, WO_nop, WO_retn, WO_par, WO_if, WO_nx, WO_rt, WO_tst, W_bind, W_ok, W_some, W_none, W_lift, W_if, W_quiet, vs_var, vR_var, vs_non, vR_non, vs_bl, vR_bl, vs_int, vR_int, vs_str, vR_str, vs_glb, vR_glb, vs_scs, vR_scs, vs_tup, vR_tup, vs_lst, vR_lst, vs_dic, vR_dic, vs_bin, vR_bin, vs_neg, vR_neg, vs_not, vR_not, vs_and, vR_and, vs_or, vR_or, vs_cmp, vR_cmp, vs_cm2, vR_cm2, vs_isn, vR_isn, vs_nsn, vR_nsn, vs_ite, vs_idx, vR_idx, vs_tix, vR_tix, vs_sli, vR_sli, vs_rev, vR_rev, vs_call, vs_bi, vR_bi, vs_isi, vR_isi, vs_met, vR_met, vs_comp, vR_comp, vs_dcom, vR_dcom, vs_comp2, vR_comp2, vs_rng, vR_rng, vs_rn3, vR_rn3, vs_enu, vR_enu, vs_zip, vR_zip, vs_vals, vR_vals, vs_its, vR_its, vs_lof, vR_lof, vs_act, vR_act, vs_isx, vR_isx, vs_plc, vR_plc, vs_srt, vR_srt, vs_rv2, vR_rv2, vs_tof, vR_tof, vs_gix, vR_gix, vs_nil, vs_tpv, vs_scv, vs_lam, vR_call, vR_ite, gv_0, gv_s, ix_l0, ix_l1, ix_l2, ix_l3, ix_l4, ix_l5, ix_l6, ix_l7, ix_t0, ix_t1, ix_t2, ix_t3, ix_t4, ix_t5, ix_t6, ix_t7, st_l0, st_l1, st_l2, st_l3, st_l4, tr_b, tr_i, cm_eq, cm_ne, cm_lt, cm_gt, cm_le, cm_ge, bn_add, bn_sub, bi_int, bi_lenl, bi_lent, al_nil, al_cons, fx_i, fx_b, fx_s, fx_n, fx_l, fx_t, fx_d, mu_i, mu_b, mu_s, mu_n, mu_t, mu_l, mu_d, co_i, co_b, co_s, co_n, co_t, co_l, co_d, se_0, se_s, ex_some, Option.map_some, Option.bind_some, Bool.false_eq_true, if_false, if_true, decide_eq_true_eq, Bool.and_false, Bool.false_and, Bool.and_true, Bool.true_and, Bool.or_false, Bool.false_or, Ev.fresh, ownV, bd_ok, lift_some, part_t, part_f, test_t, test_f, as_i, isNil, blank, slotsP, isTy, List.any_cons, List.any_nil, Bool.not_true, Bool.not_false, List.map_cons, List.map_nil, List.cons_append, List.nil_append, List.replicate_succ, List.replicate_zero, Nat.reduceSub, and_self, and_true, true_and, Int.reduceSub, Int.reduceAdd, Int.reduceNeg, Int.reduceMul, Int.reduceLT, Int.reduceLE, decide_true, decide_false, not_true_eq_false, not_false_eq_true, Prod.mk.injEq, bn_mod, bn_fdiv', bn_mull, bn_mulr, bi_max3, bi_max2, bi_min2, bi_abs, bi_bool, cm_mem, cm_nmem, Int.reducePow, WO_app, own_eq, fl_0, fl_s, setD_eq, fz, retE, ev_var, ev_non, ev_bl, ev_int, ev_str, ev_glb, ev_tup, ev_lst, ev_dic, ev_bin, ev_neg, ev_not, ev_and, ev_or, ev_cmp, ev_cm2, ev_isn, ev_nsn, ev_ite, ev_idx, ev_tix, ev_scs, ev_sli, ev_rev, ev_call, ev_isi, ev_met, ev_gix, ev_lof, ev_tof, ev_rv2, ev_act, ev_isx, ev_plc, ev_rng, ev_rn3, ev_enu, ev_zip, ev_vals, ev_its, ev_comp, ev_comp2, ev_dcom, ev_srt, asg_nm, asg_tt, asg_tl, asgs_nil, asgs_cons, ev_bi, fx_nil, WO_stp, fr_1, fr_2, fr_3, fr_4, fr_5, fr_6, fr_7, fr_8, fr_9, fr_10, fr_11, fr_12, fr_13, fr_14, fr_15, fr_16, lfz_app, List.append_nil, WO_aug, WO_trya, WO_tryl, augD, bd_exc, gd_0, gd_s, cb_eq, cb_ne, WO_fnil, WO_fcons])))
def TB : PyData := .tuple [.int 1, .int 3, .int 6, .int 8, .int 10]
abbrev G (n : Nat) : Gm := cal L.gl L.fns L.wf n
theorem hc : calm L.fns = true := by decide +kernel
theorem gb0 {n : Nat} : (G n).glb 0 = some (.int 107) := by cases n <;> rfl
theorem gb1 {n : Nat} : (G n).glb 1 = some (.int 1) := by cases n <;> rfl
theorem gb2 {n : Nat} : (G n).glb 2 = some TB := by cases n <;> rfl
theorem gb3 {n : Nat} : (G n).glb 3 = some (.int 24) := by cases n <;> rfl
theorem gb4 {n : Nat} : (G n).glb 4 = some (.int 2) := by cases n <;> rfl
theorem gb5 {n : Nat} : (G n).glb 5 = some (.int 8) := by cases n <;> rfl
theorem gb6 {n : Nat} : (G n).glb 6 = some (.int 1) := by cases n <;> rfl
theorem gb7 {n : Nat} : (G n).glb 7 = some (.int 6) := by cases n <;> rfl
theorem pick (n : Nat) : PickG (G (n + 1)) 15 := pickG (X := .bin .mul (.var 3) (.int 40692)) (k := 31) (a := 48271) (b := 40014) (m := 2147483563) rfl (by unfold sm; decide) (by decide) (by decide) fun r t c h => ⟨c * 40692, by
  have e : ev (cal L.gl L.fns L.wf n) (.var 3) r t = .ok (.int c) t := by unfold ev; rw [h]
  have e2 : binD .mul (.int c) (.int 40692) = some (.int (c * 40692)) := bn_mulr (by decide)
  rw [ev_bin, e, bd_ok, ev_int, bd_ok, e2]
  rfl⟩
theorem any (n : Nat) : AnyG (G (n + 2)) 16 := anyG (k := 15) rfl (pick n)
theorem tape (n : Nat) : TapeG (G (n + 1)) 14 := tapeG (c := 97) (E := .bin .mul (.int 13) (.bi .len (.cons (.var 1) .nil))) rfl fun r t xs h => ⟨13 * (xs.length : Int), by
  have e : ev (cal L.gl L.fns L.wf n) (.var 1) r t = .ok (.list xs) t := by unfold ev; rw [h]
  have e2 : binD .mul (.int 13) (.int xs.length) = some (.int (13 * (xs.length : Int))) := bn_mull (by decide)
  rw [ev_bin, ev_int, bd_ok, ev_bi, vs_var, e]
  show lift (binD .mul (.int 13) (.int xs.length)) t = _
  rw [e2]
  rfl⟩
theorem q_int {n : Nat} {t : Tp} {i : Int} : (G (n + 1)).cl 0 [.d (.int i)] t = .ok (.bool true, false) t := by
  refine eqW (cl_do (F := ⟨1, 1, b_is_integer⟩) rfl rfl ?_)
  unfold b_is_integer
  walk_at "ev"

theorem q_in {n : Nat} {t : Tp} {i a b : Int} : (G (n + 2)).cl 1 [.d (.int i), .d (.int a), .d (.int b)] t = .ok (.bool (decide (a ≤ i ∧ i ≤ b)), false) t := by
  refine eqW (cl_do (F := ⟨3, 3, b_is_within⟩) rfl rfl ?_)
  unfold b_is_within
  walk_at "ev"
  simp only [q_int]
  walk_at "ev"
  split <;> (rename_i h; simp [h])

theorem q_siz {n : Nat} {t : Tp} {xs : List PyData} {a b : Int} : (G (n + 1)).cl 2 [.d (.tuple xs), .d (.int a), .d (.int b)] t = .ok (.bool (decide (a ≤ xs.length ∧ xs.length ≤ b)), false) t := by
  refine eqW (cl_do (F := ⟨3, 3, b_is_sized⟩) rfl rfl ?_)
  unfold b_is_sized
  walk_at "ev"
  split <;> (rename_i h; simp [h])

def bk (p : Int) : Bool := anyEq (.int (p % 12)) [.int 1, .int 3, .int 6, .int 8, .int 10]
theorem mem_bk {p : Int} : memD (.int (p % 12)) TB = some (bk p) := rfl
theorem mem_bk2 {p : Int} : memD (.int (p % 12)) (.tuple [.int 1, .int 3, .int 6, .int 8, .int 10]) = some (bk p) := rfl
def obk (p f : Int) : Int := if f = 1 ∧ bk p = true then 1 else 0
theorem mcase (p f : Int) : (f = 1 ∧ bk p = true ∧ obk p f = 1) ∨ (f = 1 ∧ bk p = false ∧ obk p f = 0) ∨ (¬ f = 1 ∧ obk p f = 0) := by
  unfold obk
  by_cases h : f = 1
  · cases hk : bk p
    · exact .inr (.inl ⟨h, rfl, by simp⟩)
    · exact .inl ⟨h, rfl, by simp [h]⟩
  · exact .inr (.inr ⟨h, by simp [h]⟩)
def mx3 (i j k : Int) : Int := if k > (if j > i then j else i) then k else (if j > i then j else i)
def st (a b far : Int) : Int := mx3 0 ((if a = 1 then 1 else b - a) - far) (far - (2 * (b - a) + (if a = 1 then 3 else 1)))
def br (a b far : Int) : Int := if a < b then st a b far else far + (if b = 1 then 1 else 6)
def rc (one a other b : Int) : Int := obk other b + (if one = other then (if a = b then 0 else 2) else if a = b then 8 else if other < one then br b a (one - other) else br a b (other - one))
local macro_rules | `(tactic| walk_at "e1") => `(tactic| ((try simp only [WO_seq, WO_set, WO_ret, WO_ife, WO_exp, WO_forr, WO_nop, WO_retn, WO_par, WO_if, WO_nx, WO_rt, WO_tst, W_bind, W_ok, W_some, W_none, W_lift, W_if, W_quiet, vs_var, vR_var, vs_non, vR_non, vs_bl, vR_bl, vs_int, vR_int, vs_str, vR_str, vs_glb, vR_glb, vs_scs, vR_scs, vs_tup, vR_tup, vs_lst, vR_lst, vs_dic, vR_dic, vs_bin, vR_bin, vs_neg, vR_neg, vs_not, vR_not, vs_and, vR_and, vs_or, vR_or, vs_cmp, vR_cmp, vs_cm2, vR_cm2, vs_isn, vR_isn, vs_nsn, vR_nsn, vs_ite, vs_idx, vR_idx, vs_tix, vR_tix, vs_sli, vR_sli, vs_rev, vR_rev, vs_call, vs_bi, vR_bi, vs_isi, vR_isi, vs_met, vR_met, vs_comp, vR_comp, vs_dcom, vR_dcom, vs_comp2, vR_comp2, vs_rng, vR_rng, vs_rn3, vR_rn3, vs_enu, vR_enu, vs_zip, vR_zip, vs_vals, vR_vals, vs_its, vR_its, vs_lof, vR_lof, vs_act, vR_act, vs_isx, vR_isx, vs_plc, vR_plc, vs_srt, vR_srt, vs_rv2, vR_rv2, vs_tof, vR_tof, vs_gix, vR_gix, vs_nil, vs_tpv, vs_scv, vs_lam, vR_call, vR_ite, gv_0, gv_s, ix_l0, ix_l1, ix_l2, ix_l3, ix_l4, ix_l5, ix_l6, ix_l7, ix_t0, ix_t1, ix_t2, ix_t3, ix_t4, ix_t5, ix_t6, ix_t7, st_l0, st_l1, st_l2, st_l3, st_l4, tr_b, tr_i, cm_eq, cm_ne, cm_lt, cm_gt, cm_le, cm_ge, bn_add, bn_sub, bi_int, bi_lenl, bi_lent, al_nil, al_cons, fx_i, fx_b, fx_s, fx_n, fx_l, fx_t, fx_d, mu_i, mu_b, mu_s, mu_n, mu_t, mu_l, mu_d, co_i, co_b, co_s, co_n, co_t, co_l, co_d, se_0, se_s, ex_some, Option.map_some, Option.bind_some, Bool.false_eq_true, if_false, if_true, decide_eq_true_eq, Bool.and_false, Bool.false_and, Bool.and_true, Bool.true_and, Bool.or_false, Bool.false_or, Ev.fresh, ownV, bd_ok, lift_some, part_t, part_f, test_t, test_f, as_i, isNil, blank, slotsP, isTy, List.any_cons, List.any_nil, Bool.not_true, Bool.not_false, List.map_cons, List.map_nil, List.cons_append, List.nil_append, List.replicate_succ, List.replicate_zero, Nat.reduceSub, and_self, and_true, true_and, Int.reduceSub, Int.reduceAdd, Int.reduceNeg, Int.reduceMul, Int.reduceLT, Int.reduceLE, decide_true, decide_false, not_true_eq_false, not_false_eq_true, Prod.mk.injEq, bn_mod, bn_fdiv', bn_mull, bn_mulr, bi_max3, bi_max2, bi_min2, bi_abs, bi_bool, cm_mem, cm_nmem, Int.reducePow, WO_app, own_eq, fl_0, fl_s, setD_eq, fz, retE, ev_var, ev_non, ev_bl, ev_int, ev_str, ev_glb, ev_tup, ev_lst, ev_dic, ev_bin, ev_neg, ev_not, ev_and, ev_or, ev_cmp, ev_cm2, ev_isn, ev_nsn, ev_ite, ev_idx, ev_tix, ev_scs, ev_sli, ev_rev, ev_call, ev_isi, ev_met, ev_gix, ev_lof, ev_tof, ev_rv2, ev_act, ev_isx, ev_plc, ev_rng, ev_rn3, ev_enu, ev_zip, ev_vals, ev_its, ev_comp, ev_comp2, ev_dcom, ev_srt, asg_nm, asg_tt, asg_tl, asgs_nil, asgs_cons, ev_bi, fx_nil, WO_stp, fr_1, fr_2, fr_3, fr_4, fr_5, fr_6, fr_7, fr_8, fr_9, fr_10, fr_11, fr_12, fr_13, fr_14, fr_15, fr_16, lfz_app, List.append_nil, WO_aug, WO_trya, WO_tryl, augD, bd_exc, gd_0, gd_s, cb_eq, cb_ne, WO_fnil, WO_fcons, *, gb0, gb1, gb2, gb3, gb4, gb5, gb6, gb7, q_int, q_in, q_siz, mem_bk, mem_bk2, bi_intb]); repeat ((first | refine Wn_mk ?_ | refine Wf_mk ?_); try simp only [WO_seq, WO_set, WO_ret, WO_ife, WO_exp, WO_forr, WO_nop, WO_retn, WO_par, WO_if, WO_nx, WO_rt, WO_tst, W_bind, W_ok, W_some, W_none, W_lift, W_if, W_quiet, vs_var, vR_var, vs_non, vR_non, vs_bl, vR_bl, vs_int, vR_int, vs_str, vR_str, vs_glb, vR_glb, vs_scs, vR_scs, vs_tup, vR_tup, vs_lst, vR_lst, vs_dic, vR_dic, vs_bin, vR_bin, vs_neg, vR_neg, vs_not, vR_not, vs_and, vR_and, vs_or, vR_or, vs_cmp, vR_cmp, vs_cm2, vR_cm2, vs_isn, vR_isn, vs_nsn, vR_nsn, vs_ite, vs_idx, vR_idx, vs_tix, vR_tix, vs_sli, vR_sli, vs_rev, vR_rev, vs_call, vs_bi, vR_bi, vs_isi, vR_isi, vs_met, vR_met, vs_comp, vR_comp, vs_dcom, vR_dcom, vs_comp2, vR_comp2, vs_rng, vR_rng, vs_rn3, vR_rn3, vs_enu, vR_enu, vs_zip, vR_zip, vs_vals, vR_vals, vs_its, vR_its, vs_lof, vR_lof, vs_act, vR_act, vs_isx, vR_isx, vs_plc, vR_plc, vs_srt, vR_srt, vs_rv2, vR_rv2, vs_tof, vR_tof, vs_gix, vR_gix, vs_nil, vs_tpv, vs_scv, vs_lam, vR_call, vR_ite, gv_0, gv_s, ix_l0, ix_l1, ix_l2, ix_l3, ix_l4, ix_l5, ix_l6, ix_l7, ix_t0, ix_t1, ix_t2, ix_t3, ix_t4, ix_t5, ix_t6, ix_t7, st_l0, st_l1, st_l2, st_l3, st_l4, tr_b, tr_i, cm_eq, cm_ne, cm_lt, cm_gt, cm_le, cm_ge, bn_add, bn_sub, bi_int, bi_lenl, bi_lent, al_nil, al_cons, fx_i, fx_b, fx_s, fx_n, fx_l, fx_t, fx_d, mu_i, mu_b, mu_s, mu_n, mu_t, mu_l, mu_d, co_i, co_b, co_s, co_n, co_t, co_l, co_d, se_0, se_s, ex_some, Option.map_some, Option.bind_some, Bool.false_eq_true, if_false, if_true, decide_eq_true_eq, Bool.and_false, Bool.false_and, Bool.and_true, Bool.true_and, Bool.or_false, Bool.false_or, Ev.fresh, ownV, bd_ok, lift_some, part_t, part_f, test_t, test_f, as_i, isNil, blank, slotsP, isTy, List.any_cons, List.any_nil, Bool.not_true, Bool.not_false, List.map_cons, List.map_nil, List.cons_append, List.nil_append, List.replicate_succ, List.replicate_zero, Nat.reduceSub, and_self, and_true, true_and, Int.reduceSub, Int.reduceAdd, Int.reduceNeg, Int.reduceMul, Int.reduceLT, Int.reduceLE, decide_true, decide_false, not_true_eq_false, not_false_eq_true, Prod.mk.injEq, bn_mod, bn_fdiv', bn_mull, bn_mulr, bi_max3, bi_max2, bi_min2, bi_abs, bi_bool, cm_mem, cm_nmem, Int.reducePow, WO_app, own_eq, fl_0, fl_s, setD_eq, fz, retE, ev_var, ev_non, ev_bl, ev_int, ev_str, ev_glb, ev_tup, ev_lst, ev_dic, ev_bin, ev_neg, ev_not, ev_and, ev_or, ev_cmp, ev_cm2, ev_isn, ev_nsn, ev_ite, ev_idx, ev_tix, ev_scs, ev_sli, ev_rev, ev_call, ev_isi, ev_met, ev_gix, ev_lof, ev_tof, ev_rv2, ev_act, ev_isx, ev_plc, ev_rng, ev_rn3, ev_enu, ev_zip, ev_vals, ev_its, ev_comp, ev_comp2, ev_dcom, ev_srt, asg_nm, asg_tt, asg_tl, asgs_nil, asgs_cons, ev_bi, fx_nil, WO_stp, fr_1, fr_2, fr_3, fr_4, fr_5, fr_6, fr_7, fr_8, fr_9, fr_10, fr_11, fr_12, fr_13, fr_14, fr_15, fr_16, lfz_app, List.append_nil, WO_aug, WO_trya, WO_tryl, augD, bd_exc, gd_0, gd_s, cb_eq, cb_ne, WO_fnil, WO_fcons, *, gb0, gb1, gb2, gb3, gb4, gb5, gb6, gb7, q_int, q_in, q_siz, mem_bk, mem_bk2, bi_intb])))
theorem q3 {n : Nat} {t : Tp} {p : Int} : (G (n + 3)).cl 3 [.d (.int p)] t = .ok (.bool (decide (0 ≤ p ∧ p ≤ 107)), false) t := by
  refine eqW (cl_do (F := ⟨1, 1, b_is_pitch⟩) rfl rfl ?_)
  unfold b_is_pitch
  walk_at "e1"

theorem q4 {n : Nat} {t : Tp} {p : Int} : (G (n + 3)).cl 4 [.d (.int p)] t = .ok (.bool (decide (1 ≤ p ∧ p ≤ 5)), false) t := by
  refine eqW (cl_do (F := ⟨1, 1, b_is_finger⟩) rfl rfl ?_)
  unfold b_is_finger
  walk_at "e1"

theorem q7 {n : Nat} {t : Tp} {p f : Int} : (G (n + 1)).cl 7 [.d (.int p), .d (.int f)] t = .ok (.int (obk p f), false) t := by
  refine eqW (cl_do (F := ⟨2, 2, b_on_black⟩) rfl rfl ?_)
  unfold b_on_black
  unfold obk
  walk_at "e1"
  by_cases h : f = 1
  · rw [if_pos h]
    simp [h]
  · rw [if_neg h]
    simp [h]

theorem q8 {n : Nat} {t : Tp} {a b far : Int} : (G (n + 1)).cl 8 [.d (.int a), .d (.int b), .d (.int far)] t = .ok (.int (st a b far), false) t := by
  refine eqW (cl_do (F := ⟨3, 5, b_stretch_cost⟩) rfl rfl ?_)
  unfold b_stretch_cost
  unfold st mx3
  by_cases h : a = 1
  · subst h
    walk_at "e1"
  · walk_at "e1"

local macro_rules | `(tactic| walk_at "e2") => `(tactic| ((try simp only [WO_seq, WO_set, WO_ret, WO_ife, WO_exp, WO_forr, WO_nop, WO_retn, WO_par, WO_if, WO_nx, WO_rt, WO_tst, W_bind, W_ok, W_some, W_none, W_lift, W_if, W_quiet, vs_var, vR_var, vs_non, vR_non, vs_bl, vR_bl, vs_int, vR_int, vs_str, vR_str, vs_glb, vR_glb, vs_scs, vR_scs, vs_tup, vR_tup, vs_lst, vR_lst, vs_dic, vR_dic, vs_bin, vR_bin, vs_neg, vR_neg, vs_not, vR_not, vs_and, vR_and, vs_or, vR_or, vs_cmp, vR_cmp, vs_cm2, vR_cm2, vs_isn, vR_isn, vs_nsn, vR_nsn, vs_ite, vs_idx, vR_idx, vs_tix, vR_tix, vs_sli, vR_sli, vs_rev, vR_rev, vs_call, vs_bi, vR_bi, vs_isi, vR_isi, vs_met, vR_met, vs_comp, vR_comp, vs_dcom, vR_dcom, vs_comp2, vR_comp2, vs_rng, vR_rng, vs_rn3, vR_rn3, vs_enu, vR_enu, vs_zip, vR_zip, vs_vals, vR_vals, vs_its, vR_its, vs_lof, vR_lof, vs_act, vR_act, vs_isx, vR_isx, vs_plc, vR_plc, vs_srt, vR_srt, vs_rv2, vR_rv2, vs_tof, vR_tof, vs_gix, vR_gix, vs_nil, vs_tpv, vs_scv, vs_lam, vR_call, vR_ite, gv_0, gv_s, ix_l0, ix_l1, ix_l2, ix_l3, ix_l4, ix_l5, ix_l6, ix_l7, ix_t0, ix_t1, ix_t2, ix_t3, ix_t4, ix_t5, ix_t6, ix_t7, st_l0, st_l1, st_l2, st_l3, st_l4, tr_b, tr_i, cm_eq, cm_ne, cm_lt, cm_gt, cm_le, cm_ge, bn_add, bn_sub, bi_int, bi_lenl, bi_lent, al_nil, al_cons, fx_i, fx_b, fx_s, fx_n, fx_l, fx_t, fx_d, mu_i, mu_b, mu_s, mu_n, mu_t, mu_l, mu_d, co_i, co_b, co_s, co_n, co_t, co_l, co_d, se_0, se_s, ex_some, Option.map_some, Option.bind_some, Bool.false_eq_true, if_false, if_true, decide_eq_true_eq, Bool.and_false, Bool.false_and, Bool.and_true, Bool.true_and, Bool.or_false, Bool.false_or, Ev.fresh, ownV, bd_ok, lift_some, part_t, part_f, test_t, test_f, as_i, isNil, blank, slotsP, isTy, List.any_cons, List.any_nil, Bool.not_true, Bool.not_false, List.map_cons, List.map_nil, List.cons_append, List.nil_append, List.replicate_succ, List.replicate_zero, Nat.reduceSub, and_self, and_true, true_and, Int.reduceSub, Int.reduceAdd, Int.reduceNeg, Int.reduceMul, Int.reduceLT, Int.reduceLE, decide_true, decide_false, not_true_eq_false, not_false_eq_true, Prod.mk.injEq, bn_mod, bn_fdiv', bn_mull, bn_mulr, bi_max3, bi_max2, bi_min2, bi_abs, bi_bool, cm_mem, cm_nmem, Int.reducePow, WO_app, own_eq, fl_0, fl_s, setD_eq, fz, retE, ev_var, ev_non, ev_bl, ev_int, ev_str, ev_glb, ev_tup, ev_lst, ev_dic, ev_bin, ev_neg, ev_not, ev_and, ev_or, ev_cmp, ev_cm2, ev_isn, ev_nsn, ev_ite, ev_idx, ev_tix, ev_scs, ev_sli, ev_rev, ev_call, ev_isi, ev_met, ev_gix, ev_lof, ev_tof, ev_rv2, ev_act, ev_isx, ev_plc, ev_rng, ev_rn3, ev_enu, ev_zip, ev_vals, ev_its, ev_comp, ev_comp2, ev_dcom, ev_srt, asg_nm, asg_tt, asg_tl, asgs_nil, asgs_cons, ev_bi, fx_nil, WO_stp, fr_1, fr_2, fr_3, fr_4, fr_5, fr_6, fr_7, fr_8, fr_9, fr_10, fr_11, fr_12, fr_13, fr_14, fr_15, fr_16, lfz_app, List.append_nil, WO_aug, WO_trya, WO_tryl, augD, bd_exc, gd_0, gd_s, cb_eq, cb_ne, WO_fnil, WO_fcons, *, gb0, gb1, gb2, gb3, gb4, gb5, gb6, gb7, q_int, q_in, q_siz, mem_bk, mem_bk2, bi_intb, q3, q4, q7, q8]); repeat ((first | refine Wn_mk ?_ | refine Wf_mk ?_); try simp only [WO_seq, WO_set, WO_ret, WO_ife, WO_exp, WO_forr, WO_nop, WO_retn, WO_par, WO_if, WO_nx, WO_rt, WO_tst, W_bind, W_ok, W_some, W_none, W_lift, W_if, W_quiet, vs_var, vR_var, vs_non, vR_non, vs_bl, vR_bl, vs_int, vR_int, vs_str, vR_str, vs_glb, vR_glb, vs_scs, vR_scs, vs_tup, vR_tup, vs_lst, vR_lst, vs_dic, vR_dic, vs_bin, vR_bin, vs_neg, vR_neg, vs_not, vR_not, vs_and, vR_and, vs_or, vR_or, vs_cmp, vR_cmp, vs_cm2, vR_cm2, vs_isn, vR_isn, vs_nsn, vR_nsn, vs_ite, vs_idx, vR_idx, vs_tix, vR_tix, vs_sli, vR_sli, vs_rev, vR_rev, vs_call, vs_bi, vR_bi, vs_isi, vR_isi, vs_met, vR_met, vs_comp, vR_comp, vs_dcom, vR_dcom, vs_comp2, vR_comp2, vs_rng, vR_rng, vs_rn3, vR_rn3, vs_enu, vR_enu, vs_zip, vR_zip, vs_vals, vR_vals, vs_its, vR_its, vs_lof, vR_lof, vs_act, vR_act, vs_isx, vR_isx, vs_plc, vR_plc, vs_srt, vR_srt, vs_rv2, vR_rv2, vs_tof, vR_tof, vs_gix, vR_gix, vs_nil, vs_tpv, vs_scv, vs_lam, vR_call, vR_ite, gv_0, gv_s, ix_l0, ix_l1, ix_l2, ix_l3, ix_l4, ix_l5, ix_l6, ix_l7, ix_t0, ix_t1, ix_t2, ix_t3, ix_t4, ix_t5, ix_t6, ix_t7, st_l0, st_l1, st_l2, st_l3, st_l4, tr_b, tr_i, cm_eq, cm_ne, cm_lt, cm_gt, cm_le, cm_ge, bn_add, bn_sub, bi_int, bi_lenl, bi_lent, al_nil, al_cons, fx_i, fx_b, fx_s, fx_n, fx_l, fx_t, fx_d, mu_i, mu_b, mu_s, mu_n, mu_t, mu_l, mu_d, co_i, co_b, co_s, co_n, co_t, co_l, co_d, se_0, se_s, ex_some, Option.map_some, Option.bind_some, Bool.false_eq_true, if_false, if_true, decide_eq_true_eq, Bool.and_false, Bool.false_and, Bool.and_true, Bool.true_and, Bool.or_false, Bool.false_or, Ev.fresh, ownV, bd_ok, lift_some, part_t, part_f, test_t, test_f, as_i, isNil, blank, slotsP, isTy, List.any_cons, List.any_nil, Bool.not_true, Bool.not_false, List.map_cons, List.map_nil, List.cons_append, List.nil_append, List.replicate_succ, List.replicate_zero, Nat.reduceSub, and_self, and_true, true_and, Int.reduceSub, Int.reduceAdd, Int.reduceNeg, Int.reduceMul, Int.reduceLT, Int.reduceLE, decide_true, decide_false, not_true_eq_false, not_false_eq_true, Prod.mk.injEq, bn_mod, bn_fdiv', bn_mull, bn_mulr, bi_max3, bi_max2, bi_min2, bi_abs, bi_bool, cm_mem, cm_nmem, Int.reducePow, WO_app, own_eq, fl_0, fl_s, setD_eq, fz, retE, ev_var, ev_non, ev_bl, ev_int, ev_str, ev_glb, ev_tup, ev_lst, ev_dic, ev_bin, ev_neg, ev_not, ev_and, ev_or, ev_cmp, ev_cm2, ev_isn, ev_nsn, ev_ite, ev_idx, ev_tix, ev_scs, ev_sli, ev_rev, ev_call, ev_isi, ev_met, ev_gix, ev_lof, ev_tof, ev_rv2, ev_act, ev_isx, ev_plc, ev_rng, ev_rn3, ev_enu, ev_zip, ev_vals, ev_its, ev_comp, ev_comp2, ev_dcom, ev_srt, asg_nm, asg_tt, asg_tl, asgs_nil, asgs_cons, ev_bi, fx_nil, WO_stp, fr_1, fr_2, fr_3, fr_4, fr_5, fr_6, fr_7, fr_8, fr_9, fr_10, fr_11, fr_12, fr_13, fr_14, fr_15, fr_16, lfz_app, List.append_nil, WO_aug, WO_trya, WO_tryl, augD, bd_exc, gd_0, gd_s, cb_eq, cb_ne, WO_fnil, WO_fcons, *, gb0, gb1, gb2, gb3, gb4, gb5, gb6, gb7, q_int, q_in, q_siz, mem_bk, mem_bk2, bi_intb, q3, q4, q7, q8])))
theorem q9 {n : Nat} {t : Tp} {one a other b : Int} : (G (n + 2)).cl 9 [.d (.int one), .d (.int a), .d (.int other), .d (.int b)] t = .ok (.int (rc one a other b), true) t := by
  refine eqW (cl_do (F := ⟨4, 6, b_raw_cost⟩) rfl rfl ?_)
  unfold b_raw_cost
  unfold rc br
  by_cases h1 : one = other
  · subst h1
    by_cases h2 : a = b
    · subst h2
      walk_at "e2"
      simp
    · walk_at "e2"
      simp [h2]
  · by_cases h2 : a = b
    · subst h2
      walk_at "e2"
    · by_cases h3 : other < one
      · have e1 : other - one < 0 := by omega
        have e2 : -(other - one) = one - other := by omega
        by_cases h4 : b < a
        · walk_at "e2"
        · by_cases h5 : a = 1
          · subst h5
            walk_at "e2"
            rw [Int.add_assoc]
          · walk_at "e2"
            rw [Int.add_assoc]
      · have e1 : ¬ other - one < 0 := by omega
        by_cases h4 : a < b
        · walk_at "e2"
        · by_cases h5 : b = 1
          · subst h5
            walk_at "e2"
            rw [Int.add_assoc]
          · walk_at "e2"
            rw [Int.add_assoc]

local macro_rules | `(tactic| walk_at "e3") => `(tactic| ((try simp only [WO_seq, WO_set, WO_ret, WO_ife, WO_exp, WO_forr, WO_nop, WO_retn, WO_par, WO_if, WO_nx, WO_rt, WO_tst, W_bind, W_ok, W_some, W_none, W_lift, W_if, W_quiet, vs_var, vR_var, vs_non, vR_non, vs_bl, vR_bl, vs_int, vR_int, vs_str, vR_str, vs_glb, vR_glb, vs_scs, vR_scs, vs_tup, vR_tup, vs_lst, vR_lst, vs_dic, vR_dic, vs_bin, vR_bin, vs_neg, vR_neg, vs_not, vR_not, vs_and, vR_and, vs_or, vR_or, vs_cmp, vR_cmp, vs_cm2, vR_cm2, vs_isn, vR_isn, vs_nsn, vR_nsn, vs_ite, vs_idx, vR_idx, vs_tix, vR_tix, vs_sli, vR_sli, vs_rev, vR_rev, vs_call, vs_bi, vR_bi, vs_isi, vR_isi, vs_met, vR_met, vs_comp, vR_comp, vs_dcom, vR_dcom, vs_comp2, vR_comp2, vs_rng, vR_rng, vs_rn3, vR_rn3, vs_enu, vR_enu, vs_zip, vR_zip, vs_vals, vR_vals, vs_its, vR_its, vs_lof, vR_lof, vs_act, vR_act, vs_isx, vR_isx, vs_plc, vR_plc, vs_srt, vR_srt, vs_rv2, vR_rv2, vs_tof, vR_tof, vs_gix, vR_gix, vs_nil, vs_tpv, vs_scv, vs_lam, vR_call, vR_ite, gv_0, gv_s, ix_l0, ix_l1, ix_l2, ix_l3, ix_l4, ix_l5, ix_l6, ix_l7, ix_t0, ix_t1, ix_t2, ix_t3, ix_t4, ix_t5, ix_t6, ix_t7, st_l0, st_l1, st_l2, st_l3, st_l4, tr_b, tr_i, cm_eq, cm_ne, cm_lt, cm_gt, cm_le, cm_ge, bn_add, bn_sub, bi_int, bi_lenl, bi_lent, al_nil, al_cons, fx_i, fx_b, fx_s, fx_n, fx_l, fx_t, fx_d, mu_i, mu_b, mu_s, mu_n, mu_t, mu_l, mu_d, co_i, co_b, co_s, co_n, co_t, co_l, co_d, se_0, se_s, ex_some, Option.map_some, Option.bind_some, Bool.false_eq_true, if_false, if_true, decide_eq_true_eq, Bool.and_false, Bool.false_and, Bool.and_true, Bool.true_and, Bool.or_false, Bool.false_or, Ev.fresh, ownV, bd_ok, lift_some, part_t, part_f, test_t, test_f, as_i, isNil, blank, slotsP, isTy, List.any_cons, List.any_nil, Bool.not_true, Bool.not_false, List.map_cons, List.map_nil, List.cons_append, List.nil_append, List.replicate_succ, List.replicate_zero, Nat.reduceSub, and_self, and_true, true_and, Int.reduceSub, Int.reduceAdd, Int.reduceNeg, Int.reduceMul, Int.reduceLT, Int.reduceLE, decide_true, decide_false, not_true_eq_false, not_false_eq_true, Prod.mk.injEq, bn_mod, bn_fdiv', bn_mull, bn_mulr, bi_max3, bi_max2, bi_min2, bi_abs, bi_bool, cm_mem, cm_nmem, Int.reducePow, WO_app, own_eq, fl_0, fl_s, setD_eq, fz, retE, ev_var, ev_non, ev_bl, ev_int, ev_str, ev_glb, ev_tup, ev_lst, ev_dic, ev_bin, ev_neg, ev_not, ev_and, ev_or, ev_cmp, ev_cm2, ev_isn, ev_nsn, ev_ite, ev_idx, ev_tix, ev_scs, ev_sli, ev_rev, ev_call, ev_isi, ev_met, ev_gix, ev_lof, ev_tof, ev_rv2, ev_act, ev_isx, ev_plc, ev_rng, ev_rn3, ev_enu, ev_zip, ev_vals, ev_its, ev_comp, ev_comp2, ev_dcom, ev_srt, asg_nm, asg_tt, asg_tl, asgs_nil, asgs_cons, ev_bi, fx_nil, WO_stp, fr_1, fr_2, fr_3, fr_4, fr_5, fr_6, fr_7, fr_8, fr_9, fr_10, fr_11, fr_12, fr_13, fr_14, fr_15, fr_16, lfz_app, List.append_nil, WO_aug, WO_trya, WO_tryl, augD, bd_exc, gd_0, gd_s, cb_eq, cb_ne, WO_fnil, WO_fcons, *, gb0, gb1, gb2, gb3, gb4, gb5, gb6, gb7, q_int, q_in, q_siz, mem_bk, mem_bk2, bi_intb, q3, q4, q7, q8, q9]); repeat ((first | refine Wn_mk ?_ | refine Wf_mk ?_); try simp only [WO_seq, WO_set, WO_ret, WO_ife, WO_exp, WO_forr, WO_nop, WO_retn, WO_par, WO_if, WO_nx, WO_rt, WO_tst, W_bind, W_ok, W_some, W_none, W_lift, W_if, W_quiet, vs_var, vR_var, vs_non, vR_non, vs_bl, vR_bl, vs_int, vR_int, vs_str, vR_str, vs_glb, vR_glb, vs_scs, vR_scs, vs_tup, vR_tup, vs_lst, vR_lst, vs_dic, vR_dic, vs_bin, vR_bin, vs_neg, vR_neg, vs_not, vR_not, vs_and, vR_and, vs_or, vR_or, vs_cmp, vR_cmp, vs_cm2, vR_cm2, vs_isn, vR_isn, vs_nsn, vR_nsn, vs_ite, vs_idx, vR_idx, vs_tix, vR_tix, vs_sli, vR_sli, vs_rev, vR_rev, vs_call, vs_bi, vR_bi, vs_isi, vR_isi, vs_met, vR_met, vs_comp, vR_comp, vs_dcom, vR_dcom, vs_comp2, vR_comp2, vs_rng, vR_rng, vs_rn3, vR_rn3, vs_enu, vR_enu, vs_zip, vR_zip, vs_vals, vR_vals, vs_its, vR_its, vs_lof, vR_lof, vs_act, vR_act, vs_isx, vR_isx, vs_plc, vR_plc, vs_srt, vR_srt, vs_rv2, vR_rv2, vs_tof, vR_tof, vs_gix, vR_gix, vs_nil, vs_tpv, vs_scv, vs_lam, vR_call, vR_ite, gv_0, gv_s, ix_l0, ix_l1, ix_l2, ix_l3, ix_l4, ix_l5, ix_l6, ix_l7, ix_t0, ix_t1, ix_t2, ix_t3, ix_t4, ix_t5, ix_t6, ix_t7, st_l0, st_l1, st_l2, st_l3, st_l4, tr_b, tr_i, cm_eq, cm_ne, cm_lt, cm_gt, cm_le, cm_ge, bn_add, bn_sub, bi_int, bi_lenl, bi_lent, al_nil, al_cons, fx_i, fx_b, fx_s, fx_n, fx_l, fx_t, fx_d, mu_i, mu_b, mu_s, mu_n, mu_t, mu_l, mu_d, co_i, co_b, co_s, co_n, co_t, co_l, co_d, se_0, se_s, ex_some, Option.map_some, Option.bind_some, Bool.false_eq_true, if_false, if_true, decide_eq_true_eq, Bool.and_false, Bool.false_and, Bool.and_true, Bool.true_and, Bool.or_false, Bool.false_or, Ev.fresh, ownV, bd_ok, lift_some, part_t, part_f, test_t, test_f, as_i, isNil, blank, slotsP, isTy, List.any_cons, List.any_nil, Bool.not_true, Bool.not_false, List.map_cons, List.map_nil, List.cons_append, List.nil_append, List.replicate_succ, List.replicate_zero, Nat.reduceSub, and_self, and_true, true_and, Int.reduceSub, Int.reduceAdd, Int.reduceNeg, Int.reduceMul, Int.reduceLT, Int.reduceLE, decide_true, decide_false, not_true_eq_false, not_false_eq_true, Prod.mk.injEq, bn_mod, bn_fdiv', bn_mull, bn_mulr, bi_max3, bi_max2, bi_min2, bi_abs, bi_bool, cm_mem, cm_nmem, Int.reducePow, WO_app, own_eq, fl_0, fl_s, setD_eq, fz, retE, ev_var, ev_non, ev_bl, ev_int, ev_str, ev_glb, ev_tup, ev_lst, ev_dic, ev_bin, ev_neg, ev_not, ev_and, ev_or, ev_cmp, ev_cm2, ev_isn, ev_nsn, ev_ite, ev_idx, ev_tix, ev_scs, ev_sli, ev_rev, ev_call, ev_isi, ev_met, ev_gix, ev_lof, ev_tof, ev_rv2, ev_act, ev_isx, ev_plc, ev_rng, ev_rn3, ev_enu, ev_zip, ev_vals, ev_its, ev_comp, ev_comp2, ev_dcom, ev_srt, asg_nm, asg_tt, asg_tl, asgs_nil, asgs_cons, ev_bi, fx_nil, WO_stp, fr_1, fr_2, fr_3, fr_4, fr_5, fr_6, fr_7, fr_8, fr_9, fr_10, fr_11, fr_12, fr_13, fr_14, fr_15, fr_16, lfz_app, List.append_nil, WO_aug, WO_trya, WO_tryl, augD, bd_exc, gd_0, gd_s, cb_eq, cb_ne, WO_fnil, WO_fcons, *, gb0, gb1, gb2, gb3, gb4, gb5, gb6, gb7, q_int, q_in, q_siz, mem_bk, mem_bk2, bi_intb, q3, q4, q7, q8, q9])))
theorem q10 {n : Nat} {t : Tp} {one a other b : Int} (p1 : 0 ≤ one) (p2 : one ≤ 107) (p3 : 0 ≤ other) (p4 : other ≤ 107) (f1 : 1 ≤ a) (f2 : a ≤ 5) (f3 : 1 ≤ b) (f4 : b ≤ 5) : (G (n + 4)).cl 10 [.d (.int one), .d (.int a), .d (.int other), .d (.int b)] t = .ok (.int (rc one a other b), true) t := by
  refine eqW (cl_do (F := ⟨4, 6, b_cost_of⟩) rfl rfl ?_)
  unfold b_cost_of
  walk_at "e3"
  refine ⟨_, wk_t (Nat.le_of_ble_eq_true rfl), ?_⟩
  walk_at "e3"

theorem q19 {n : Nat} {t : Tp} {p : Int} : (G (n + 1)).cl 19 [.d (.int p)] t = .ok (.bool (bk p), false) t := by
  refine eqW (cl_do (F := ⟨1, 1, b__law_is_black⟩) rfl rfl ?_)
  unfold b__law_is_black
  walk_at "e2"

local macro_rules | `(tactic| walk_at "e3") => `(tactic| ((try simp only [WO_seq, WO_set, WO_ret, WO_ife, WO_exp, WO_forr, WO_nop, WO_retn, WO_par, WO_if, WO_nx, WO_rt, WO_tst, W_bind, W_ok, W_some, W_none, W_lift, W_if, W_quiet, vs_var, vR_var, vs_non, vR_non, vs_bl, vR_bl, vs_int, vR_int, vs_str, vR_str, vs_glb, vR_glb, vs_scs, vR_scs, vs_tup, vR_tup, vs_lst, vR_lst, vs_dic, vR_dic, vs_bin, vR_bin, vs_neg, vR_neg, vs_not, vR_not, vs_and, vR_and, vs_or, vR_or, vs_cmp, vR_cmp, vs_cm2, vR_cm2, vs_isn, vR_isn, vs_nsn, vR_nsn, vs_ite, vs_idx, vR_idx, vs_tix, vR_tix, vs_sli, vR_sli, vs_rev, vR_rev, vs_call, vs_bi, vR_bi, vs_isi, vR_isi, vs_met, vR_met, vs_comp, vR_comp, vs_dcom, vR_dcom, vs_comp2, vR_comp2, vs_rng, vR_rng, vs_rn3, vR_rn3, vs_enu, vR_enu, vs_zip, vR_zip, vs_vals, vR_vals, vs_its, vR_its, vs_lof, vR_lof, vs_act, vR_act, vs_isx, vR_isx, vs_plc, vR_plc, vs_srt, vR_srt, vs_rv2, vR_rv2, vs_tof, vR_tof, vs_gix, vR_gix, vs_nil, vs_tpv, vs_scv, vs_lam, vR_call, vR_ite, gv_0, gv_s, ix_l0, ix_l1, ix_l2, ix_l3, ix_l4, ix_l5, ix_l6, ix_l7, ix_t0, ix_t1, ix_t2, ix_t3, ix_t4, ix_t5, ix_t6, ix_t7, st_l0, st_l1, st_l2, st_l3, st_l4, tr_b, tr_i, cm_eq, cm_ne, cm_lt, cm_gt, cm_le, cm_ge, bn_add, bn_sub, bi_int, bi_lenl, bi_lent, al_nil, al_cons, fx_i, fx_b, fx_s, fx_n, fx_l, fx_t, fx_d, mu_i, mu_b, mu_s, mu_n, mu_t, mu_l, mu_d, co_i, co_b, co_s, co_n, co_t, co_l, co_d, se_0, se_s, ex_some, Option.map_some, Option.bind_some, Bool.false_eq_true, if_false, if_true, decide_eq_true_eq, Bool.and_false, Bool.false_and, Bool.and_true, Bool.true_and, Bool.or_false, Bool.false_or, Ev.fresh, ownV, bd_ok, lift_some, part_t, part_f, test_t, test_f, as_i, isNil, blank, slotsP, isTy, List.any_cons, List.any_nil, Bool.not_true, Bool.not_false, List.map_cons, List.map_nil, List.cons_append, List.nil_append, List.replicate_succ, List.replicate_zero, Nat.reduceSub, and_self, and_true, true_and, Int.reduceSub, Int.reduceAdd, Int.reduceNeg, Int.reduceMul, Int.reduceLT, Int.reduceLE, decide_true, decide_false, not_true_eq_false, not_false_eq_true, Prod.mk.injEq, bn_mod, bn_fdiv', bn_mull, bn_mulr, bi_max3, bi_max2, bi_min2, bi_abs, bi_bool, cm_mem, cm_nmem, Int.reducePow, WO_app, own_eq, fl_0, fl_s, setD_eq, fz, retE, ev_var, ev_non, ev_bl, ev_int, ev_str, ev_glb, ev_tup, ev_lst, ev_dic, ev_bin, ev_neg, ev_not, ev_and, ev_or, ev_cmp, ev_cm2, ev_isn, ev_nsn, ev_ite, ev_idx, ev_tix, ev_scs, ev_sli, ev_rev, ev_call, ev_isi, ev_met, ev_gix, ev_lof, ev_tof, ev_rv2, ev_act, ev_isx, ev_plc, ev_rng, ev_rn3, ev_enu, ev_zip, ev_vals, ev_its, ev_comp, ev_comp2, ev_dcom, ev_srt, asg_nm, asg_tt, asg_tl, asgs_nil, asgs_cons, ev_bi, fx_nil, WO_stp, fr_1, fr_2, fr_3, fr_4, fr_5, fr_6, fr_7, fr_8, fr_9, fr_10, fr_11, fr_12, fr_13, fr_14, fr_15, fr_16, lfz_app, List.append_nil, WO_aug, WO_trya, WO_tryl, augD, bd_exc, gd_0, gd_s, cb_eq, cb_ne, WO_fnil, WO_fcons, *, gb0, gb1, gb2, gb3, gb4, gb5, gb6, gb7, q_int, q_in, q_siz, mem_bk, mem_bk2, bi_intb, q3, q4, q7, q8, q9, q19]); repeat ((first | refine Wn_mk ?_ | refine Wf_mk ?_); try simp only [WO_seq, WO_set, WO_ret, WO_ife, WO_exp, WO_forr, WO_nop, WO_retn, WO_par, WO_if, WO_nx, WO_rt, WO_tst, W_bind, W_ok, W_some, W_none, W_lift, W_if, W_quiet, vs_var, vR_var, vs_non, vR_non, vs_bl, vR_bl, vs_int, vR_int, vs_str, vR_str, vs_glb, vR_glb, vs_scs, vR_scs, vs_tup, vR_tup, vs_lst, vR_lst, vs_dic, vR_dic, vs_bin, vR_bin, vs_neg, vR_neg, vs_not, vR_not, vs_and, vR_and, vs_or, vR_or, vs_cmp, vR_cmp, vs_cm2, vR_cm2, vs_isn, vR_isn, vs_nsn, vR_nsn, vs_ite, vs_idx, vR_idx, vs_tix, vR_tix, vs_sli, vR_sli, vs_rev, vR_rev, vs_call, vs_bi, vR_bi, vs_isi, vR_isi, vs_met, vR_met, vs_comp, vR_comp, vs_dcom, vR_dcom, vs_comp2, vR_comp2, vs_rng, vR_rng, vs_rn3, vR_rn3, vs_enu, vR_enu, vs_zip, vR_zip, vs_vals, vR_vals, vs_its, vR_its, vs_lof, vR_lof, vs_act, vR_act, vs_isx, vR_isx, vs_plc, vR_plc, vs_srt, vR_srt, vs_rv2, vR_rv2, vs_tof, vR_tof, vs_gix, vR_gix, vs_nil, vs_tpv, vs_scv, vs_lam, vR_call, vR_ite, gv_0, gv_s, ix_l0, ix_l1, ix_l2, ix_l3, ix_l4, ix_l5, ix_l6, ix_l7, ix_t0, ix_t1, ix_t2, ix_t3, ix_t4, ix_t5, ix_t6, ix_t7, st_l0, st_l1, st_l2, st_l3, st_l4, tr_b, tr_i, cm_eq, cm_ne, cm_lt, cm_gt, cm_le, cm_ge, bn_add, bn_sub, bi_int, bi_lenl, bi_lent, al_nil, al_cons, fx_i, fx_b, fx_s, fx_n, fx_l, fx_t, fx_d, mu_i, mu_b, mu_s, mu_n, mu_t, mu_l, mu_d, co_i, co_b, co_s, co_n, co_t, co_l, co_d, se_0, se_s, ex_some, Option.map_some, Option.bind_some, Bool.false_eq_true, if_false, if_true, decide_eq_true_eq, Bool.and_false, Bool.false_and, Bool.and_true, Bool.true_and, Bool.or_false, Bool.false_or, Ev.fresh, ownV, bd_ok, lift_some, part_t, part_f, test_t, test_f, as_i, isNil, blank, slotsP, isTy, List.any_cons, List.any_nil, Bool.not_true, Bool.not_false, List.map_cons, List.map_nil, List.cons_append, List.nil_append, List.replicate_succ, List.replicate_zero, Nat.reduceSub, and_self, and_true, true_and, Int.reduceSub, Int.reduceAdd, Int.reduceNeg, Int.reduceMul, Int.reduceLT, Int.reduceLE, decide_true, decide_false, not_true_eq_false, not_false_eq_true, Prod.mk.injEq, bn_mod, bn_fdiv', bn_mull, bn_mulr, bi_max3, bi_max2, bi_min2, bi_abs, bi_bool, cm_mem, cm_nmem, Int.reducePow, WO_app, own_eq, fl_0, fl_s, setD_eq, fz, retE, ev_var, ev_non, ev_bl, ev_int, ev_str, ev_glb, ev_tup, ev_lst, ev_dic, ev_bin, ev_neg, ev_not, ev_and, ev_or, ev_cmp, ev_cm2, ev_isn, ev_nsn, ev_ite, ev_idx, ev_tix, ev_scs, ev_sli, ev_rev, ev_call, ev_isi, ev_met, ev_gix, ev_lof, ev_tof, ev_rv2, ev_act, ev_isx, ev_plc, ev_rng, ev_rn3, ev_enu, ev_zip, ev_vals, ev_its, ev_comp, ev_comp2, ev_dcom, ev_srt, asg_nm, asg_tt, asg_tl, asgs_nil, asgs_cons, ev_bi, fx_nil, WO_stp, fr_1, fr_2, fr_3, fr_4, fr_5, fr_6, fr_7, fr_8, fr_9, fr_10, fr_11, fr_12, fr_13, fr_14, fr_15, fr_16, lfz_app, List.append_nil, WO_aug, WO_trya, WO_tryl, augD, bd_exc, gd_0, gd_s, cb_eq, cb_ne, WO_fnil, WO_fcons, *, gb0, gb1, gb2, gb3, gb4, gb5, gb6, gb7, q_int, q_in, q_siz, mem_bk, mem_bk2, bi_intb, q3, q4, q7, q8, q9, q19])))
theorem q20 {n : Nat} {t : Tp} {one a other b : Int} : (G (n + 2)).cl 20 [.d (.int one), .d (.int a), .d (.int other), .d (.int b)] t = .ok (.int (rc one a other b), true) t := by
  refine eqW (cl_do (F := ⟨4, 10, b__law_cost⟩) rfl rfl ?_)
  unfold b__law_cost
  rcases mcase other b with ⟨hb, hk, ho⟩ | ⟨hb, hk, ho⟩ | ⟨hb, ho⟩
  · subst hb
    unfold rc br
    by_cases h1 : one = other
    · subst h1
      by_cases h2 : a = 1
      · subst h2
        (walk_at "e3"; try (refine congrArg PyData.int ?_; first | omega | (unfold st mx3; (repeat' split) <;> omega)))
      · (walk_at "e3"; try (refine congrArg PyData.int ?_; first | omega | (unfold st mx3; (repeat' split) <;> omega)))
    · by_cases h2 : a = 1
      · subst h2
        (walk_at "e3"; try (refine congrArg PyData.int ?_; first | omega | (unfold st mx3; (repeat' split) <;> omega)))
      · by_cases h3 : other < one
        · have e1 : other - one < 0 := by omega
          have e2 : -(other - one) = one - other := by omega
          have e3 : ¬ one < other := by omega
          by_cases h4 : 1 < a
          · have h4' : ¬ a < 1 := by omega
            (walk_at "e3"; try (refine congrArg PyData.int ?_; first | omega | (unfold st mx3; (repeat' split) <;> omega)))
          · have h4' : a < 1 := by omega
            by_cases h5 : a = 1
            · subst h5
              (walk_at "e3"; try (refine congrArg PyData.int ?_; first | omega | (unfold st mx3; (repeat' split) <;> omega)))
            · (walk_at "e3"; try (refine congrArg PyData.int ?_; first | omega | (unfold st mx3; (repeat' split) <;> omega)))
        · have e1 : ¬ other - one < 0 := by omega
          have e3 : one < other := by omega
          by_cases h4 : a < 1
          · have h4' : ¬ 1 < a := by omega
            by_cases h6 : a = 1
            · subst h6
              (walk_at "e3"; try (refine congrArg PyData.int ?_; first | omega | (unfold st mx3; (repeat' split) <;> omega)))
            · (walk_at "e3"; try (refine congrArg PyData.int ?_; first | omega | (unfold st mx3; (repeat' split) <;> omega)))
          · have h4' : 1 < a := by omega
            (walk_at "e3"; try (refine congrArg PyData.int ?_; first | omega | (unfold st mx3; (repeat' split) <;> omega)))
  · subst hb
    unfold rc br
    by_cases h1 : one = other
    · subst h1
      by_cases h2 : a = 1
      · subst h2
        (walk_at "e3"; try (refine congrArg PyData.int ?_; first | omega | (unfold st mx3; (repeat' split) <;> omega)))
      · (walk_at "e3"; try (refine congrArg PyData.int ?_; first | omega | (unfold st mx3; (repeat' split) <;> omega)))
    · by_cases h2 : a = 1
      · subst h2
        (walk_at "e3"; try (refine congrArg PyData.int ?_; first | omega | (unfold st mx3; (repeat' split) <;> omega)))
      · by_cases h3 : other < one
        · have e1 : other - one < 0 := by omega
          have e2 : -(other - one) = one - other := by omega
          have e3 : ¬ one < other := by omega
          by_cases h4 : 1 < a
          · have h4' : ¬ a < 1 := by omega
            (walk_at "e3"; try (refine congrArg PyData.int ?_; first | omega | (unfold st mx3; (repeat' split) <;> omega)))
          · have h4' : a < 1 := by omega
            by_cases h5 : a = 1
            · subst h5
              (walk_at "e3"; try (refine congrArg PyData.int ?_; first | omega | (unfold st mx3; (repeat' split) <;> omega)))
            · (walk_at "e3"; try (refine congrArg PyData.int ?_; first | omega | (unfold st mx3; (repeat' split) <;> omega)))
        · have e1 : ¬ other - one < 0 := by omega
          have e3 : one < other := by omega
          by_cases h4 : a < 1
          · have h4' : ¬ 1 < a := by omega
            by_cases h6 : a = 1
            · subst h6
              (walk_at "e3"; try (refine congrArg PyData.int ?_; first | omega | (unfold st mx3; (repeat' split) <;> omega)))
            · (walk_at "e3"; try (refine congrArg PyData.int ?_; first | omega | (unfold st mx3; (repeat' split) <;> omega)))
          · have h4' : 1 < a := by omega
            (walk_at "e3"; try (refine congrArg PyData.int ?_; first | omega | (unfold st mx3; (repeat' split) <;> omega)))
  · skip
    unfold rc br
    by_cases h1 : one = other
    · subst h1
      by_cases h2 : a = b
      · subst h2
        (walk_at "e3"; try (refine congrArg PyData.int ?_; first | omega | (unfold st mx3; (repeat' split) <;> omega)))
      · (walk_at "e3"; try (refine congrArg PyData.int ?_; first | omega | (unfold st mx3; (repeat' split) <;> omega)))
    · by_cases h2 : a = b
      · subst h2
        (walk_at "e3"; try (refine congrArg PyData.int ?_; first | omega | (unfold st mx3; (repeat' split) <;> omega)))
      · by_cases h3 : other < one
        · have e1 : other - one < 0 := by omega
          have e2 : -(other - one) = one - other := by omega
          have e3 : ¬ one < other := by omega
          by_cases h4 : b < a
          · have h4' : ¬ a < b := by omega
            (walk_at "e3"; try (refine congrArg PyData.int ?_; first | omega | (unfold st mx3; (repeat' split) <;> omega)))
          · have h4' : a < b := by omega
            by_cases h5 : a = 1
            · subst h5
              (walk_at "e3"; try (refine congrArg PyData.int ?_; first | omega | (unfold st mx3; (repeat' split) <;> omega)))
            · (walk_at "e3"; try (refine congrArg PyData.int ?_; first | omega | (unfold st mx3; (repeat' split) <;> omega)))
        · have e1 : ¬ other - one < 0 := by omega
          have e3 : one < other := by omega
          by_cases h4 : a < b
          · have h4' : ¬ b < a := by omega
            by_cases h6 : a = 1
            · subst h6
              (walk_at "e3"; try (refine congrArg PyData.int ?_; first | omega | (unfold st mx3; (repeat' split) <;> omega)))
            · (walk_at "e3"; try (refine congrArg PyData.int ?_; first | omega | (unfold st mx3; (repeat' split) <;> omega)))
          · have h4' : b < a := by omega
            (walk_at "e3"; try (refine congrArg PyData.int ?_; first | omega | (unfold st mx3; (repeat' split) <;> omega)))

theorem q21 {n : Nat} {t : Tp} {p f : Int} : (G (n + 2)).cl 21 [.d (.int p), .d (.int f)] t = .ok (.int (obk p f), false) t := by
  refine eqW (cl_do (F := ⟨2, 2, b__law_begin⟩) rfl rfl ?_)
  unfold b__law_begin
  rcases mcase p f with ⟨hb, hk, ho⟩ | ⟨hb, hk, ho⟩ | ⟨hb, ho⟩
  · subst hb
    walk_at "e3"
  · subst hb
    walk_at "e3"
  · walk_at "e3"

/-- the costs between neighbours -/
def ps : List Int → List Int → Int
  | p :: q :: r, a :: b :: s => rc p a q b + ps (q :: r) (b :: s)
  | _, _ => 0
def tot (ls fs : List Int) : Int := obk (gt ls 0) (gt fs 0) + ps ls fs
theorem gt_cons {x : Int} {r : List Int} {k : Int} (h : 0 ≤ k) : gt (x :: r) (k + 1) = gt r k := by
  unfold gt
  have : (k + 1).toNat = k.toNat + 1 := by omega
  rw [this]
  rfl
theorem ps_step : ∀ (k : Nat) (ls fs : List Int), ls.length = fs.length → k + 1 < ls.length → ps (ls.take (k + 2)) (fs.take (k + 2)) = ps (ls.take (k + 1)) (fs.take (k + 1)) + rc (gt ls k) (gt fs k) (gt ls (k + 1)) (gt fs (k + 1))
  | k, [], _, _, h => by simp at h
  | k, [_], _, _, h => by simp at h
  | k, p :: q :: r, [], e, _ => by simp at e
  | k, p :: q :: r, [_], e, _ => by simp at e
  | 0, p :: q :: r, a :: b :: s, _, _ => by
    show rc p a q b + ps (q :: r.take 0) (b :: s.take 0) = ps (p :: (q :: r).take 0) (a :: (b :: s).take 0) + rc p a q b
    rw [List.take_zero, List.take_zero, List.take_zero, List.take_zero]
    show rc p a q b + 0 = 0 + rc p a q b
    omega
  | k + 1, p :: q :: r, a :: b :: s, e, h => by
    have ih := ps_step k (q :: r) (b :: s) (by simpa using e) (by simpa using h)
    have e1 : ((k + 1 : Nat) : Int) = (k : Int) + 1 := by omega
    rw [e1, gt_cons (x := p) (r := q :: r) (k := k) (by omega), gt_cons (x := a) (r := b :: s) (k := k) (by omega), gt_cons (x := p) (r := q :: r) (k := k + 1) (by omega), gt_cons (x := a) (r := b :: s) (k := k + 1) (by omega)]
    show rc p a q b + ps (q :: r.take (k + 1)) (b :: s.take (k + 1)) = (rc p a q b + ps (q :: r.take k) (b :: s.take k)) + _
    have ih : ps (q :: r.take (k + 1)) (b :: s.take (k + 1)) = ps (q :: r.take k) (b :: s.take k) + _ := ih
    omega
theorem ps_one (ls fs : List Int) : ps (ls.take 1) (fs.take 1) = 0 := by
  cases ls with
  | nil => rfl
  | cons p r =>
    cases fs with
    | nil => rfl
    | cons a s => rfl
/-- a line parted -/
theorem ps_part : ∀ (k : Nat) (ls fs : List Int), ls.length = fs.length → k + 1 < ls.length → ps ls fs = ps (ls.take (k + 1)) (fs.take (k + 1)) + rc (gt ls k) (gt fs k) (gt ls (k + 1)) (gt fs (k + 1)) + ps (ls.drop (k + 1)) (fs.drop (k + 1))
  | k, [], _, _, h => by simp at h
  | k, [_], _, _, h => by simp at h
  | k, p :: q :: r, [], e, _ => by simp at e
  | k, p :: q :: r, [_], e, _ => by simp at e
  | 0, p :: q :: r, a :: b :: s, _, _ => by
    show rc p a q b + ps (q :: r) (b :: s) = ps (p :: (q :: r).take 0) (a :: (b :: s).take 0) + rc p a q b + ps (q :: r) (b :: s)
    rw [List.take_zero, List.take_zero]
    show _ = 0 + rc p a q b + ps (q :: r) (b :: s)
    omega
  | k + 1, p :: q :: r, a :: b :: s, e, h => by
    have ih := ps_part k (q :: r) (b :: s) (by simpa using e) (by simpa using h)
    have e1 : ((k + 1 : Nat) : Int) = (k : Int) + 1 := by omega
    rw [e1, gt_cons (x := p) (r := q :: r) (k := k) (by omega), gt_cons (x := a) (r := b :: s) (k := k) (by omega), gt_cons (x := p) (r := q :: r) (k := k + 1) (by omega), gt_cons (x := a) (r := b :: s) (k := k + 1) (by omega)]
    show rc p a q b + ps (q :: r) (b :: s) = (rc p a q b + ps (q :: r.take k) (b :: s.take k)) + _ + ps (r.drop k) (s.drop k)
    have ih : ps (q :: r) (b :: s) = ps (q :: r.take k) (b :: s.take k) + _ + ps (r.drop k) (s.drop k) := ih
    omega
def IsL (ls : List Int) : Prop := ∀ p ∈ ls, 0 ≤ p ∧ p ≤ 107
def IsF (fs : List Int) : Prop := ∀ p ∈ fs, 1 ≤ p ∧ p ≤ 5
theorem gt_mem {ls : List Int} {k : Int} (h0 : 0 ≤ k) (h1 : k < ls.length) : gt ls k ∈ ls := by
  unfold gt
  rw [List.getD_eq_getElem?_getD, List.getElem?_eq_getElem (by omega)]
  exact List.getElem_mem _
local macro_rules | `(tactic| walk_at "e4") => `(tactic| ((try simp only [WO_seq, WO_set, WO_ret, WO_ife, WO_exp, WO_forr, WO_nop, WO_retn, WO_par, WO_if, WO_nx, WO_rt, WO_tst, W_bind, W_ok, W_some, W_none, W_lift, W_if, W_quiet, vs_var, vR_var, vs_non, vR_non, vs_bl, vR_bl, vs_int, vR_int, vs_str, vR_str, vs_glb, vR_glb, vs_scs, vR_scs, vs_tup, vR_tup, vs_lst, vR_lst, vs_dic, vR_dic, vs_bin, vR_bin, vs_neg, vR_neg, vs_not, vR_not, vs_and, vR_and, vs_or, vR_or, vs_cmp, vR_cmp, vs_cm2, vR_cm2, vs_isn, vR_isn, vs_nsn, vR_nsn, vs_ite, vs_idx, vR_idx, vs_tix, vR_tix, vs_sli, vR_sli, vs_rev, vR_rev, vs_call, vs_bi, vR_bi, vs_isi, vR_isi, vs_met, vR_met, vs_comp, vR_comp, vs_dcom, vR_dcom, vs_comp2, vR_comp2, vs_rng, vR_rng, vs_rn3, vR_rn3, vs_enu, vR_enu, vs_zip, vR_zip, vs_vals, vR_vals, vs_its, vR_its, vs_lof, vR_lof, vs_act, vR_act, vs_isx, vR_isx, vs_plc, vR_plc, vs_srt, vR_srt, vs_rv2, vR_rv2, vs_tof, vR_tof, vs_gix, vR_gix, vs_nil, vs_tpv, vs_scv, vs_lam, vR_call, vR_ite, gv_0, gv_s, ix_l0, ix_l1, ix_l2, ix_l3, ix_l4, ix_l5, ix_l6, ix_l7, ix_t0, ix_t1, ix_t2, ix_t3, ix_t4, ix_t5, ix_t6, ix_t7, st_l0, st_l1, st_l2, st_l3, st_l4, tr_b, tr_i, cm_eq, cm_ne, cm_lt, cm_gt, cm_le, cm_ge, bn_add, bn_sub, bi_int, bi_lenl, bi_lent, al_nil, al_cons, fx_i, fx_b, fx_s, fx_n, fx_l, fx_t, fx_d, mu_i, mu_b, mu_s, mu_n, mu_t, mu_l, mu_d, co_i, co_b, co_s, co_n, co_t, co_l, co_d, se_0, se_s, ex_some, Option.map_some, Option.bind_some, Bool.false_eq_true, if_false, if_true, decide_eq_true_eq, Bool.and_false, Bool.false_and, Bool.and_true, Bool.true_and, Bool.or_false, Bool.false_or, Ev.fresh, ownV, bd_ok, lift_some, part_t, part_f, test_t, test_f, as_i, isNil, blank, slotsP, isTy, List.any_cons, List.any_nil, Bool.not_true, Bool.not_false, List.map_cons, List.map_nil, List.cons_append, List.nil_append, List.replicate_succ, List.replicate_zero, Nat.reduceSub, and_self, and_true, true_and, Int.reduceSub, Int.reduceAdd, Int.reduceNeg, Int.reduceMul, Int.reduceLT, Int.reduceLE, decide_true, decide_false, not_true_eq_false, not_false_eq_true, Prod.mk.injEq, bn_mod, bn_fdiv', bn_mull, bn_mulr, bi_max3, bi_max2, bi_min2, bi_abs, bi_bool, cm_mem, cm_nmem, Int.reducePow, WO_app, own_eq, fl_0, fl_s, setD_eq, fz, retE, ev_var, ev_non, ev_bl, ev_int, ev_str, ev_glb, ev_tup, ev_lst, ev_dic, ev_bin, ev_neg, ev_not, ev_and, ev_or, ev_cmp, ev_cm2, ev_isn, ev_nsn, ev_ite, ev_idx, ev_tix, ev_scs, ev_sli, ev_rev, ev_call, ev_isi, ev_met, ev_gix, ev_lof, ev_tof, ev_rv2, ev_act, ev_isx, ev_plc, ev_rng, ev_rn3, ev_enu, ev_zip, ev_vals, ev_its, ev_comp, ev_comp2, ev_dcom, ev_srt, asg_nm, asg_tt, asg_tl, asgs_nil, asgs_cons, ev_bi, fx_nil, WO_stp, fr_1, fr_2, fr_3, fr_4, fr_5, fr_6, fr_7, fr_8, fr_9, fr_10, fr_11, fr_12, fr_13, fr_14, fr_15, fr_16, lfz_app, List.append_nil, WO_aug, WO_trya, WO_tryl, augD, bd_exc, gd_0, gd_s, cb_eq, cb_ne, WO_fnil, WO_fcons, *, gb0, gb1, gb2, gb3, gb4, gb5, gb6, gb7, ixm, bn_addt, bi_intb, q_int, q_in, q_siz, q3, q4, q7, q8, q9, q10, q19, q20, q21]); repeat ((first | refine Wn_mk ?_ | refine Wf_mk ?_); try simp only [WO_seq, WO_set, WO_ret, WO_ife, WO_exp, WO_forr, WO_nop, WO_retn, WO_par, WO_if, WO_nx, WO_rt, WO_tst, W_bind, W_ok, W_some, W_none, W_lift, W_if, W_quiet, vs_var, vR_var, vs_non, vR_non, vs_bl, vR_bl, vs_int, vR_int, vs_str, vR_str, vs_glb, vR_glb, vs_scs, vR_scs, vs_tup, vR_tup, vs_lst, vR_lst, vs_dic, vR_dic, vs_bin, vR_bin, vs_neg, vR_neg, vs_not, vR_not, vs_and, vR_and, vs_or, vR_or, vs_cmp, vR_cmp, vs_cm2, vR_cm2, vs_isn, vR_isn, vs_nsn, vR_nsn, vs_ite, vs_idx, vR_idx, vs_tix, vR_tix, vs_sli, vR_sli, vs_rev, vR_rev, vs_call, vs_bi, vR_bi, vs_isi, vR_isi, vs_met, vR_met, vs_comp, vR_comp, vs_dcom, vR_dcom, vs_comp2, vR_comp2, vs_rng, vR_rng, vs_rn3, vR_rn3, vs_enu, vR_enu, vs_zip, vR_zip, vs_vals, vR_vals, vs_its, vR_its, vs_lof, vR_lof, vs_act, vR_act, vs_isx, vR_isx, vs_plc, vR_plc, vs_srt, vR_srt, vs_rv2, vR_rv2, vs_tof, vR_tof, vs_gix, vR_gix, vs_nil, vs_tpv, vs_scv, vs_lam, vR_call, vR_ite, gv_0, gv_s, ix_l0, ix_l1, ix_l2, ix_l3, ix_l4, ix_l5, ix_l6, ix_l7, ix_t0, ix_t1, ix_t2, ix_t3, ix_t4, ix_t5, ix_t6, ix_t7, st_l0, st_l1, st_l2, st_l3, st_l4, tr_b, tr_i, cm_eq, cm_ne, cm_lt, cm_gt, cm_le, cm_ge, bn_add, bn_sub, bi_int, bi_lenl, bi_lent, al_nil, al_cons, fx_i, fx_b, fx_s, fx_n, fx_l, fx_t, fx_d, mu_i, mu_b, mu_s, mu_n, mu_t, mu_l, mu_d, co_i, co_b, co_s, co_n, co_t, co_l, co_d, se_0, se_s, ex_some, Option.map_some, Option.bind_some, Bool.false_eq_true, if_false, if_true, decide_eq_true_eq, Bool.and_false, Bool.false_and, Bool.and_true, Bool.true_and, Bool.or_false, Bool.false_or, Ev.fresh, ownV, bd_ok, lift_some, part_t, part_f, test_t, test_f, as_i, isNil, blank, slotsP, isTy, List.any_cons, List.any_nil, Bool.not_true, Bool.not_false, List.map_cons, List.map_nil, List.cons_append, List.nil_append, List.replicate_succ, List.replicate_zero, Nat.reduceSub, and_self, and_true, true_and, Int.reduceSub, Int.reduceAdd, Int.reduceNeg, Int.reduceMul, Int.reduceLT, Int.reduceLE, decide_true, decide_false, not_true_eq_false, not_false_eq_true, Prod.mk.injEq, bn_mod, bn_fdiv', bn_mull, bn_mulr, bi_max3, bi_max2, bi_min2, bi_abs, bi_bool, cm_mem, cm_nmem, Int.reducePow, WO_app, own_eq, fl_0, fl_s, setD_eq, fz, retE, ev_var, ev_non, ev_bl, ev_int, ev_str, ev_glb, ev_tup, ev_lst, ev_dic, ev_bin, ev_neg, ev_not, ev_and, ev_or, ev_cmp, ev_cm2, ev_isn, ev_nsn, ev_ite, ev_idx, ev_tix, ev_scs, ev_sli, ev_rev, ev_call, ev_isi, ev_met, ev_gix, ev_lof, ev_tof, ev_rv2, ev_act, ev_isx, ev_plc, ev_rng, ev_rn3, ev_enu, ev_zip, ev_vals, ev_its, ev_comp, ev_comp2, ev_dcom, ev_srt, asg_nm, asg_tt, asg_tl, asgs_nil, asgs_cons, ev_bi, fx_nil, WO_stp, fr_1, fr_2, fr_3, fr_4, fr_5, fr_6, fr_7, fr_8, fr_9, fr_10, fr_11, fr_12, fr_13, fr_14, fr_15, fr_16, lfz_app, List.append_nil, WO_aug, WO_trya, WO_tryl, augD, bd_exc, gd_0, gd_s, cb_eq, cb_ne, WO_fnil, WO_fcons, *, gb0, gb1, gb2, gb3, gb4, gb5, gb6, gb7, ixm, bn_addt, bi_intb, q_int, q_in, q_siz, q3, q4, q7, q8, q9, q10, q19, q20, q21])))
theorem q12 {n : Nat} {t : Tp} {ls fs : List Int} (h : ls.length = fs.length) (h0 : 1 ≤ (ls.length : Int)) (h1 : (ls.length : Int) ≤ 1000) : (G (n + 3)).cl 12 [.d (.tuple (ls.map .int)), .d (.tuple (fs.map .int))] t = .ok (.int (tot ls fs), false) t := by
  refine eqW (cl_do (F := ⟨2, 4, b_raw_total⟩) rfl rfl ?_)
  unfold b_raw_total
  have i0 : (0 : Int) < ls.length := by omega
  have i1 : (0 : Int) < fs.length := by omega
  walk_at "e4"
  rw [List.length_map]
  refine ⟨_, if_pos ⟨by decide, by omega⟩, _, wk_l (by have : line = 16777216 := rfl; rw [rngD_len]; omega), ?_⟩
  refine WO_rng (J := fun k s => ∃ z, 1 ≤ k ∧ s = ⟨[some (.d (.tuple (ls.map .int))), some (.d (.tuple (fs.map .int))), some (.d (.int (obk (gt ls 0) (gt fs 0) + ps (ls.take k.toNat) (fs.take k.toNat)))), z], [false, false, false, false], t⟩) (fun k s hk hJ => ?_) (fun s hJ => ?_) _ 1 _ rfl (by omega) ⟨none, by omega, ?_⟩
  · obtain ⟨z, hk0, rfl⟩ := hJ
    refine ⟨_, rfl, ?_⟩
    have k1 : 0 ≤ k - 1 := by omega
    have k2 : k - 1 < ls.length := by omega
    have k3 : k - 1 < fs.length := by omega
    have k4 : 0 ≤ k := by omega
    have k5 : k < fs.length := by omega
    walk_at "e4"
    refine ⟨some (.d (.int k)), by omega, ?_⟩
    have st := ps_step (k - 1).toNat ls fs h (by omega)
    have q1 : (k - 1).toNat + 2 = (k + 1).toNat := by omega
    have q2 : (k - 1).toNat + 1 = k.toNat := by omega
    have q3 : (((k - 1).toNat : Nat) : Int) = k - 1 := by omega
    have q4 : k - 1 + 1 = k := by omega
    rw [q1, q2, q3, q4] at st
    rw [st, Int.add_assoc]
  · obtain ⟨z, hk0, rfl⟩ := hJ
    have q1 : ((ls.length : Int)).toNat = ls.length := by omega
    rw [q1, List.take_length]
    have q2 : fs.take ls.length = fs := by rw [h, List.take_length]
    rw [q2]
    walk_at "e4"
    first | rfl | exact ⟨rfl, rfl⟩
  · have q1 : (1 : Int).toNat = 1 := rfl
    rw [q1, ps_one, Int.add_zero]

theorem q22 {n : Nat} {t : Tp} {ls fs : List Int} (h : ls.length = fs.length) (h0 : 1 ≤ (ls.length : Int)) (h1 : (ls.length : Int) ≤ 1000) : (G (n + 3)).cl 22 [.d (.tuple (ls.map .int)), .d (.tuple (fs.map .int))] t = .ok (.int (tot ls fs), false) t := by
  refine eqW (cl_do (F := ⟨2, 4, b__law_total⟩) rfl rfl ?_)
  unfold b__law_total
  have i0 : (0 : Int) < ls.length := by omega
  have i1 : (0 : Int) < fs.length := by omega
  walk_at "e4"
  rw [List.length_map]
  refine ⟨_, if_pos ⟨by decide, by omega⟩, _, wk_l (by have : line = 16777216 := rfl; rw [rngD_len]; omega), ?_⟩
  refine WO_rng (J := fun k s => ∃ z, 1 ≤ k ∧ s = ⟨[some (.d (.tuple (ls.map .int))), some (.d (.tuple (fs.map .int))), some (.d (.int (obk (gt ls 0) (gt fs 0) + ps (ls.take k.toNat) (fs.take k.toNat)))), z], [false, false, false, false], t⟩) (fun k s hk hJ => ?_) (fun s hJ => ?_) _ 1 _ rfl (by omega) ⟨none, by omega, ?_⟩
  · obtain ⟨z, hk0, rfl⟩ := hJ
    refine ⟨_, rfl, ?_⟩
    have k1 : 0 ≤ k - 1 := by omega
    have k2 : k - 1 < ls.length := by omega
    have k3 : k - 1 < fs.length := by omega
    have k4 : 0 ≤ k := by omega
    have k5 : k < fs.length := by omega
    walk_at "e4"
    refine ⟨some (.d (.int k)), by omega, ?_⟩
    have st := ps_step (k - 1).toNat ls fs h (by omega)
    have q1 : (k - 1).toNat + 2 = (k + 1).toNat := by omega
    have q2 : (k - 1).toNat + 1 = k.toNat := by omega
    have q3 : (((k - 1).toNat : Nat) : Int) = k - 1 := by omega
    have q4 : k - 1 + 1 = k := by omega
    rw [q1, q2, q3, q4] at st
    rw [st, Int.add_assoc]
  · obtain ⟨z, hk0, rfl⟩ := hJ
    have q1 : ((ls.length : Int)).toNat = ls.length := by omega
    rw [q1, List.take_length]
    have q2 : fs.take ls.length = fs := by rw [h, List.take_length]
    rw [q2]
    walk_at "e4"
    first | rfl | exact ⟨rfl, rfl⟩
  · have q1 : (1 : Int).toNat = 1 := rfl
    rw [q1, ps_one, Int.add_zero]

def IsLn (ls : List Int) : Prop := IsL ls ∧ 1 ≤ (ls.length : Int) ∧ (ls.length : Int) ≤ 24
theorem tup_len {ls : List Int} : ((ls.map PyData.int).length : Int) = ls.length := by rw [List.length_map]
theorem mm {g : Int} : ∃ z, (if (if g < 107 then g else 107) > 0 then (if g < 107 then g else 107) else 0) = z ∧ 0 ≤ z ∧ z ≤ 107 := ⟨_, rfl, by split <;> split <;> omega, by split <;> split <;> omega⟩
local macro_rules | `(tactic| walk_at "e5") => `(tactic| ((try simp only [WO_seq, WO_set, WO_ret, WO_ife, WO_exp, WO_forr, WO_nop, WO_retn, WO_par, WO_if, WO_nx, WO_rt, WO_tst, W_bind, W_ok, W_some, W_none, W_lift, W_if, W_quiet, vs_var, vR_var, vs_non, vR_non, vs_bl, vR_bl, vs_int, vR_int, vs_str, vR_str, vs_glb, vR_glb, vs_scs, vR_scs, vs_tup, vR_tup, vs_lst, vR_lst, vs_dic, vR_dic, vs_bin, vR_bin, vs_neg, vR_neg, vs_not, vR_not, vs_and, vR_and, vs_or, vR_or, vs_cmp, vR_cmp, vs_cm2, vR_cm2, vs_isn, vR_isn, vs_nsn, vR_nsn, vs_ite, vs_idx, vR_idx, vs_tix, vR_tix, vs_sli, vR_sli, vs_rev, vR_rev, vs_call, vs_bi, vR_bi, vs_isi, vR_isi, vs_met, vR_met, vs_comp, vR_comp, vs_dcom, vR_dcom, vs_comp2, vR_comp2, vs_rng, vR_rng, vs_rn3, vR_rn3, vs_enu, vR_enu, vs_zip, vR_zip, vs_vals, vR_vals, vs_its, vR_its, vs_lof, vR_lof, vs_act, vR_act, vs_isx, vR_isx, vs_plc, vR_plc, vs_srt, vR_srt, vs_rv2, vR_rv2, vs_tof, vR_tof, vs_gix, vR_gix, vs_nil, vs_tpv, vs_scv, vs_lam, vR_call, vR_ite, gv_0, gv_s, ix_l0, ix_l1, ix_l2, ix_l3, ix_l4, ix_l5, ix_l6, ix_l7, ix_t0, ix_t1, ix_t2, ix_t3, ix_t4, ix_t5, ix_t6, ix_t7, st_l0, st_l1, st_l2, st_l3, st_l4, tr_b, tr_i, cm_eq, cm_ne, cm_lt, cm_gt, cm_le, cm_ge, bn_add, bn_sub, bi_int, bi_lenl, bi_lent, al_nil, al_cons, fx_i, fx_b, fx_s, fx_n, fx_l, fx_t, fx_d, mu_i, mu_b, mu_s, mu_n, mu_t, mu_l, mu_d, co_i, co_b, co_s, co_n, co_t, co_l, co_d, se_0, se_s, ex_some, Option.map_some, Option.bind_some, Bool.false_eq_true, if_false, if_true, decide_eq_true_eq, Bool.and_false, Bool.false_and, Bool.and_true, Bool.true_and, Bool.or_false, Bool.false_or, Ev.fresh, ownV, bd_ok, lift_some, part_t, part_f, test_t, test_f, as_i, isNil, blank, slotsP, isTy, List.any_cons, List.any_nil, Bool.not_true, Bool.not_false, List.map_cons, List.map_nil, List.cons_append, List.nil_append, List.replicate_succ, List.replicate_zero, Nat.reduceSub, and_self, and_true, true_and, Int.reduceSub, Int.reduceAdd, Int.reduceNeg, Int.reduceMul, Int.reduceLT, Int.reduceLE, decide_true, decide_false, not_true_eq_false, not_false_eq_true, Prod.mk.injEq, bn_mod, bn_fdiv', bn_mull, bn_mulr, bi_max3, bi_max2, bi_min2, bi_abs, bi_bool, cm_mem, cm_nmem, Int.reducePow, WO_app, own_eq, fl_0, fl_s, setD_eq, fz, retE, ev_var, ev_non, ev_bl, ev_int, ev_str, ev_glb, ev_tup, ev_lst, ev_dic, ev_bin, ev_neg, ev_not, ev_and, ev_or, ev_cmp, ev_cm2, ev_isn, ev_nsn, ev_ite, ev_idx, ev_tix, ev_scs, ev_sli, ev_rev, ev_call, ev_isi, ev_met, ev_gix, ev_lof, ev_tof, ev_rv2, ev_act, ev_isx, ev_plc, ev_rng, ev_rn3, ev_enu, ev_zip, ev_vals, ev_its, ev_comp, ev_comp2, ev_dcom, ev_srt, asg_nm, asg_tt, asg_tl, asgs_nil, asgs_cons, ev_bi, fx_nil, WO_stp, fr_1, fr_2, fr_3, fr_4, fr_5, fr_6, fr_7, fr_8, fr_9, fr_10, fr_11, fr_12, fr_13, fr_14, fr_15, fr_16, lfz_app, List.append_nil, WO_aug, WO_trya, WO_tryl, augD, bd_exc, gd_0, gd_s, cb_eq, cb_ne, WO_fnil, WO_fcons, *, gb0, gb1, gb2, gb3, gb4, gb5, gb6, gb7, tup_len, ixm, bn_addt, bi_intb, bi_tupl, bi_lstt, q_int, q_in, q_siz, q3, q4, q7, q8, q9, q10, q12, q19, q20, q21, q22]); repeat ((first | refine Wn_mk ?_ | refine Wf_mk ?_); try simp only [WO_seq, WO_set, WO_ret, WO_ife, WO_exp, WO_forr, WO_nop, WO_retn, WO_par, WO_if, WO_nx, WO_rt, WO_tst, W_bind, W_ok, W_some, W_none, W_lift, W_if, W_quiet, vs_var, vR_var, vs_non, vR_non, vs_bl, vR_bl, vs_int, vR_int, vs_str, vR_str, vs_glb, vR_glb, vs_scs, vR_scs, vs_tup, vR_tup, vs_lst, vR_lst, vs_dic, vR_dic, vs_bin, vR_bin, vs_neg, vR_neg, vs_not, vR_not, vs_and, vR_and, vs_or, vR_or, vs_cmp, vR_cmp, vs_cm2, vR_cm2, vs_isn, vR_isn, vs_nsn, vR_nsn, vs_ite, vs_idx, vR_idx, vs_tix, vR_tix, vs_sli, vR_sli, vs_rev, vR_rev, vs_call, vs_bi, vR_bi, vs_isi, vR_isi, vs_met, vR_met, vs_comp, vR_comp, vs_dcom, vR_dcom, vs_comp2, vR_comp2, vs_rng, vR_rng, vs_rn3, vR_rn3, vs_enu, vR_enu, vs_zip, vR_zip, vs_vals, vR_vals, vs_its, vR_its, vs_lof, vR_lof, vs_act, vR_act, vs_isx, vR_isx, vs_plc, vR_plc, vs_srt, vR_srt, vs_rv2, vR_rv2, vs_tof, vR_tof, vs_gix, vR_gix, vs_nil, vs_tpv, vs_scv, vs_lam, vR_call, vR_ite, gv_0, gv_s, ix_l0, ix_l1, ix_l2, ix_l3, ix_l4, ix_l5, ix_l6, ix_l7, ix_t0, ix_t1, ix_t2, ix_t3, ix_t4, ix_t5, ix_t6, ix_t7, st_l0, st_l1, st_l2, st_l3, st_l4, tr_b, tr_i, cm_eq, cm_ne, cm_lt, cm_gt, cm_le, cm_ge, bn_add, bn_sub, bi_int, bi_lenl, bi_lent, al_nil, al_cons, fx_i, fx_b, fx_s, fx_n, fx_l, fx_t, fx_d, mu_i, mu_b, mu_s, mu_n, mu_t, mu_l, mu_d, co_i, co_b, co_s, co_n, co_t, co_l, co_d, se_0, se_s, ex_some, Option.map_some, Option.bind_some, Bool.false_eq_true, if_false, if_true, decide_eq_true_eq, Bool.and_false, Bool.false_and, Bool.and_true, Bool.true_and, Bool.or_false, Bool.false_or, Ev.fresh, ownV, bd_ok, lift_some, part_t, part_f, test_t, test_f, as_i, isNil, blank, slotsP, isTy, List.any_cons, List.any_nil, Bool.not_true, Bool.not_false, List.map_cons, List.map_nil, List.cons_append, List.nil_append, List.replicate_succ, List.replicate_zero, Nat.reduceSub, and_self, and_true, true_and, Int.reduceSub, Int.reduceAdd, Int.reduceNeg, Int.reduceMul, Int.reduceLT, Int.reduceLE, decide_true, decide_false, not_true_eq_false, not_false_eq_true, Prod.mk.injEq, bn_mod, bn_fdiv', bn_mull, bn_mulr, bi_max3, bi_max2, bi_min2, bi_abs, bi_bool, cm_mem, cm_nmem, Int.reducePow, WO_app, own_eq, fl_0, fl_s, setD_eq, fz, retE, ev_var, ev_non, ev_bl, ev_int, ev_str, ev_glb, ev_tup, ev_lst, ev_dic, ev_bin, ev_neg, ev_not, ev_and, ev_or, ev_cmp, ev_cm2, ev_isn, ev_nsn, ev_ite, ev_idx, ev_tix, ev_scs, ev_sli, ev_rev, ev_call, ev_isi, ev_met, ev_gix, ev_lof, ev_tof, ev_rv2, ev_act, ev_isx, ev_plc, ev_rng, ev_rn3, ev_enu, ev_zip, ev_vals, ev_its, ev_comp, ev_comp2, ev_dcom, ev_srt, asg_nm, asg_tt, asg_tl, asgs_nil, asgs_cons, ev_bi, fx_nil, WO_stp, fr_1, fr_2, fr_3, fr_4, fr_5, fr_6, fr_7, fr_8, fr_9, fr_10, fr_11, fr_12, fr_13, fr_14, fr_15, fr_16, lfz_app, List.append_nil, WO_aug, WO_trya, WO_tryl, augD, bd_exc, gd_0, gd_s, cb_eq, cb_ne, WO_fnil, WO_fcons, *, gb0, gb1, gb2, gb3, gb4, gb5, gb6, gb7, tup_len, ixm, bn_addt, bi_intb, bi_tupl, bi_lstt, q_int, q_in, q_siz, q3, q4, q7, q8, q9, q10, q12, q19, q20, q21, q22])))
theorem q23 {n : Nat} {t : Tp} (ht : TW t) : Gives ((G (n + 3)).cl 23 [.tp, .d (.int 8)] t) fun x => ∃ ls, x = .tuple (ls.map .int) ∧ IsL ls ∧ 1 ≤ (ls.length : Int) ∧ (ls.length : Int) ≤ 8 := by
  refine cl_do (F := ⟨2, 5, b__law_line⟩) rfl rfl ?_
  unfold b__law_line
  walk_at "e5"
  refine (pick _ 108 t (by decide) (by decide) ht).use fun x m t ht hx => ?_
  obtain ⟨p, rfl, p1, p2⟩ := hx
  walk_at "e5"
  refine (pick _ 8 t (by decide) (by decide) ht).use fun x m t ht hx => ?_
  obtain ⟨k, rfl, k1, k2⟩ := hx
  walk_at "e5"
  refine ⟨_, if_pos ⟨by decide, by omega⟩, _, wk_l (by have : line = 16777216 := rfl; rw [rngD_len]; omega), ?_⟩
  refine WO_rng (J := fun j s => ∃ ls last a b fl u, 0 ≤ j ∧ s = ⟨[some .tp, some (.d (.int 8)), some (.d (.tuple ((ls ++ [last]).map .int))), a, b], fl, u⟩ ∧ (∃ f0 f1 f2 f3 f4, fl = [f0, f1, f2, f3, f4]) ∧ TW u ∧ IsL (ls ++ [last]) ∧ (ls.length : Int) = j) (fun j s hk hJ => ?_) (fun s hJ => ?_) _ 0 _ rfl k1 ⟨[], p, none, none, _, t, by omega, rfl, ⟨_, _, _, _, _, rfl⟩, ht, fun q m => ?_, rfl⟩
  · obtain ⟨ls, last, a, b, fl, u, hj0, rfl, ⟨f0, f1, f2, f3, f4, rfl⟩, hu, hl, hj⟩ := hJ
    refine ⟨_, rfl, ?_⟩
    have e := ixm_last (ls := ls) (z := last)
    walk_at "e5"
    refine (pick _ 25 u (by decide) (by decide) hu).use fun x m u hu hx => ?_
    obtain ⟨d, rfl, d1, d2⟩ := hx
    walk_at "e5"
    refine (any _ _ u (by exact List.cons_ne_nil _ _) (by exact Nat.le_of_ble_eq_true rfl) hu).use fun x m u hu hx => ?_
    have hx : ∃ z, x = .int z := by
      simp only [List.mem_cons, List.not_mem_nil, or_false] at hx
      rcases hx with rfl | rfl | rfl | rfl | rfl | rfl | rfl | rfl | rfl <;> exact ⟨_, rfl⟩
    obtain ⟨z, rfl⟩ := hx
    walk_at "e5"
    obtain ⟨w, ew, w1, w2⟩ := mm (g := last + z)
    rw [ew]
    refine ⟨_, bn_addt (by have : line = 16777216 := rfl; rw [List.length_map, List.length_append, List.length_singleton, List.length_singleton]; omega), ?_⟩
    have em : ((ls ++ [last]).map PyData.int) ++ [.int w] = ((ls ++ [last]) ++ [w]).map .int := by rw [List.map_append (l₂ := [w])]; rfl
    rw [em]
    refine ⟨ls ++ [last], w, _, _, _, u, by omega, rfl, ⟨_, _, _, _, _, rfl⟩, hu, fun q m => ?_, by rw [List.length_append, List.length_singleton]; omega⟩
    rcases List.mem_append.mp m with m | m
    · exact hl q m
    · cases List.mem_singleton.mp m
      exact ⟨w1, w2⟩
  · obtain ⟨ls, last, a, b, fl, u, hj0, rfl, ⟨f0, f1, f2, f3, f4, rfl⟩, hu, hl, hj⟩ := hJ
    walk_at "e5"
    exact ⟨ls ++ [last], rfl, hl, by rw [List.length_append, List.length_singleton]; omega, by rw [List.length_append, List.length_singleton]; omega⟩
  · cases List.mem_singleton.mp m
    omega

theorem is_ii {n : Nat} {t : Tp} {x y : Int} : (G (n + 1)).cl 17 [.d (.int x), .d (.int y)] t = .ok (.bool (decide (x = y)), false) t := by
  refine eqW (cl_do (F := ⟨2, 4, b__law_is⟩) rfl rfl ?_)
  unfold b__law_is
  walk_at "ev"
theorem rc_ge {one a other b : Int} : 0 ≤ rc one a other b := by
  have h : 0 ≤ obk other b := by unfold obk; split <;> decide
  unfold rc br st mx3
  (repeat' split) <;> omega
theorem rc_sym {one a other b : Int} (h : bk one = false) (k : bk other = false) : rc other b one a = rc one a other b := by
  have h1 : obk other b = 0 := by unfold obk; simp [k]
  have h2 : obk one a = 0 := by unfold obk; simp [h]
  unfold rc
  rw [h1, h2]
  by_cases e : one = other
  · subst e
    by_cases e2 : a = b
    · simp [e2]
    · have e3 : ¬ b = a := fun z => e2 z.symm
      simp [e2, e3]
  · have e' : ¬ other = one := fun z => e z.symm
    by_cases e2 : a = b
    · simp [e, e', e2]
    · have e3 : ¬ b = a := fun z => e2 z.symm
      simp only [e, e', e2, e3, if_false]
      by_cases e4 : other < one
      · rw [if_pos e4, if_neg (by omega)]
      · rw [if_neg e4, if_pos (by omega)]
local macro_rules | `(tactic| walk_at "e6") => `(tactic| ((try simp only [WO_seq, WO_set, WO_ret, WO_ife, WO_exp, WO_forr, WO_nop, WO_retn, WO_par, WO_if, WO_nx, WO_rt, WO_tst, W_bind, W_ok, W_some, W_none, W_lift, W_if, W_quiet, vs_var, vR_var, vs_non, vR_non, vs_bl, vR_bl, vs_int, vR_int, vs_str, vR_str, vs_glb, vR_glb, vs_scs, vR_scs, vs_tup, vR_tup, vs_lst, vR_lst, vs_dic, vR_dic, vs_bin, vR_bin, vs_neg, vR_neg, vs_not, vR_not, vs_and, vR_and, vs_or, vR_or, vs_cmp, vR_cmp, vs_cm2, vR_cm2, vs_isn, vR_isn, vs_nsn, vR_nsn, vs_ite, vs_idx, vR_idx, vs_tix, vR_tix, vs_sli, vR_sli, vs_rev, vR_rev, vs_call, vs_bi, vR_bi, vs_isi, vR_isi, vs_met, vR_met, vs_comp, vR_comp, vs_dcom, vR_dcom, vs_comp2, vR_comp2, vs_rng, vR_rng, vs_rn3, vR_rn3, vs_enu, vR_enu, vs_zip, vR_zip, vs_vals, vR_vals, vs_its, vR_its, vs_lof, vR_lof, vs_act, vR_act, vs_isx, vR_isx, vs_plc, vR_plc, vs_srt, vR_srt, vs_rv2, vR_rv2, vs_tof, vR_tof, vs_gix, vR_gix, vs_nil, vs_tpv, vs_scv, vs_lam, vR_call, vR_ite, gv_0, gv_s, ix_l0, ix_l1, ix_l2, ix_l3, ix_l4, ix_l5, ix_l6, ix_l7, ix_t0, ix_t1, ix_t2, ix_t3, ix_t4, ix_t5, ix_t6, ix_t7, st_l0, st_l1, st_l2, st_l3, st_l4, tr_b, tr_i, cm_eq, cm_ne, cm_lt, cm_gt, cm_le, cm_ge, bn_add, bn_sub, bi_int, bi_lenl, bi_lent, al_nil, al_cons, fx_i, fx_b, fx_s, fx_n, fx_l, fx_t, fx_d, mu_i, mu_b, mu_s, mu_n, mu_t, mu_l, mu_d, co_i, co_b, co_s, co_n, co_t, co_l, co_d, se_0, se_s, ex_some, Option.map_some, Option.bind_some, Bool.false_eq_true, if_false, if_true, decide_eq_true_eq, Bool.and_false, Bool.false_and, Bool.and_true, Bool.true_and, Bool.or_false, Bool.false_or, Ev.fresh, ownV, bd_ok, lift_some, part_t, part_f, test_t, test_f, as_i, isNil, blank, slotsP, isTy, List.any_cons, List.any_nil, Bool.not_true, Bool.not_false, List.map_cons, List.map_nil, List.cons_append, List.nil_append, List.replicate_succ, List.replicate_zero, Nat.reduceSub, and_self, and_true, true_and, Int.reduceSub, Int.reduceAdd, Int.reduceNeg, Int.reduceMul, Int.reduceLT, Int.reduceLE, decide_true, decide_false, not_true_eq_false, not_false_eq_true, Prod.mk.injEq, bn_mod, bn_fdiv', bn_mull, bn_mulr, bi_max3, bi_max2, bi_min2, bi_abs, bi_bool, cm_mem, cm_nmem, Int.reducePow, WO_app, own_eq, fl_0, fl_s, setD_eq, fz, retE, ev_var, ev_non, ev_bl, ev_int, ev_str, ev_glb, ev_tup, ev_lst, ev_dic, ev_bin, ev_neg, ev_not, ev_and, ev_or, ev_cmp, ev_cm2, ev_isn, ev_nsn, ev_ite, ev_idx, ev_tix, ev_scs, ev_sli, ev_rev, ev_call, ev_isi, ev_met, ev_gix, ev_lof, ev_tof, ev_rv2, ev_act, ev_isx, ev_plc, ev_rng, ev_rn3, ev_enu, ev_zip, ev_vals, ev_its, ev_comp, ev_comp2, ev_dcom, ev_srt, asg_nm, asg_tt, asg_tl, asgs_nil, asgs_cons, ev_bi, fx_nil, WO_stp, fr_1, fr_2, fr_3, fr_4, fr_5, fr_6, fr_7, fr_8, fr_9, fr_10, fr_11, fr_12, fr_13, fr_14, fr_15, fr_16, lfz_app, List.append_nil, WO_aug, WO_trya, WO_tryl, augD, bd_exc, gd_0, gd_s, cb_eq, cb_ne, WO_fnil, WO_fcons, *, gb0, gb1, gb2, gb3, gb4, gb5, gb6, gb7, ne_eq, rc_ge, is_ii, tup_len, ixm, bn_addt, bi_intb, bi_tupl, bi_lstt, q_int, q_in, q_siz, q3, q4, q7, q8, q9, q10, q12, q19, q20, q21, q22]); repeat ((first | refine Wn_mk ?_ | refine Wf_mk ?_); try simp only [WO_seq, WO_set, WO_ret, WO_ife, WO_exp, WO_forr, WO_nop, WO_retn, WO_par, WO_if, WO_nx, WO_rt, WO_tst, W_bind, W_ok, W_some, W_none, W_lift, W_if, W_quiet, vs_var, vR_var, vs_non, vR_non, vs_bl, vR_bl, vs_int, vR_int, vs_str, vR_str, vs_glb, vR_glb, vs_scs, vR_scs, vs_tup, vR_tup, vs_lst, vR_lst, vs_dic, vR_dic, vs_bin, vR_bin, vs_neg, vR_neg, vs_not, vR_not, vs_and, vR_and, vs_or, vR_or, vs_cmp, vR_cmp, vs_cm2, vR_cm2, vs_isn, vR_isn, vs_nsn, vR_nsn, vs_ite, vs_idx, vR_idx, vs_tix, vR_tix, vs_sli, vR_sli, vs_rev, vR_rev, vs_call, vs_bi, vR_bi, vs_isi, vR_isi, vs_met, vR_met, vs_comp, vR_comp, vs_dcom, vR_dcom, vs_comp2, vR_comp2, vs_rng, vR_rng, vs_rn3, vR_rn3, vs_enu, vR_enu, vs_zip, vR_zip, vs_vals, vR_vals, vs_its, vR_its, vs_lof, vR_lof, vs_act, vR_act, vs_isx, vR_isx, vs_plc, vR_plc, vs_srt, vR_srt, vs_rv2, vR_rv2, vs_tof, vR_tof, vs_gix, vR_gix, vs_nil, vs_tpv, vs_scv, vs_lam, vR_call, vR_ite, gv_0, gv_s, ix_l0, ix_l1, ix_l2, ix_l3, ix_l4, ix_l5, ix_l6, ix_l7, ix_t0, ix_t1, ix_t2, ix_t3, ix_t4, ix_t5, ix_t6, ix_t7, st_l0, st_l1, st_l2, st_l3, st_l4, tr_b, tr_i, cm_eq, cm_ne, cm_lt, cm_gt, cm_le, cm_ge, bn_add, bn_sub, bi_int, bi_lenl, bi_lent, al_nil, al_cons, fx_i, fx_b, fx_s, fx_n, fx_l, fx_t, fx_d, mu_i, mu_b, mu_s, mu_n, mu_t, mu_l, mu_d, co_i, co_b, co_s, co_n, co_t, co_l, co_d, se_0, se_s, ex_some, Option.map_some, Option.bind_some, Bool.false_eq_true, if_false, if_true, decide_eq_true_eq, Bool.and_false, Bool.false_and, Bool.and_true, Bool.true_and, Bool.or_false, Bool.false_or, Ev.fresh, ownV, bd_ok, lift_some, part_t, part_f, test_t, test_f, as_i, isNil, blank, slotsP, isTy, List.any_cons, List.any_nil, Bool.not_true, Bool.not_false, List.map_cons, List.map_nil, List.cons_append, List.nil_append, List.replicate_succ, List.replicate_zero, Nat.reduceSub, and_self, and_true, true_and, Int.reduceSub, Int.reduceAdd, Int.reduceNeg, Int.reduceMul, Int.reduceLT, Int.reduceLE, decide_true, decide_false, not_true_eq_false, not_false_eq_true, Prod.mk.injEq, bn_mod, bn_fdiv', bn_mull, bn_mulr, bi_max3, bi_max2, bi_min2, bi_abs, bi_bool, cm_mem, cm_nmem, Int.reducePow, WO_app, own_eq, fl_0, fl_s, setD_eq, fz, retE, ev_var, ev_non, ev_bl, ev_int, ev_str, ev_glb, ev_tup, ev_lst, ev_dic, ev_bin, ev_neg, ev_not, ev_and, ev_or, ev_cmp, ev_cm2, ev_isn, ev_nsn, ev_ite, ev_idx, ev_tix, ev_scs, ev_sli, ev_rev, ev_call, ev_isi, ev_met, ev_gix, ev_lof, ev_tof, ev_rv2, ev_act, ev_isx, ev_plc, ev_rng, ev_rn3, ev_enu, ev_zip, ev_vals, ev_its, ev_comp, ev_comp2, ev_dcom, ev_srt, asg_nm, asg_tt, asg_tl, asgs_nil, asgs_cons, ev_bi, fx_nil, WO_stp, fr_1, fr_2, fr_3, fr_4, fr_5, fr_6, fr_7, fr_8, fr_9, fr_10, fr_11, fr_12, fr_13, fr_14, fr_15, fr_16, lfz_app, List.append_nil, WO_aug, WO_trya, WO_tryl, augD, bd_exc, gd_0, gd_s, cb_eq, cb_ne, WO_fnil, WO_fcons, *, gb0, gb1, gb2, gb3, gb4, gb5, gb6, gb7, ne_eq, rc_ge, is_ii, tup_len, ixm, bn_addt, bi_intb, bi_tupl, bi_lstt, q_int, q_in, q_siz, q3, q4, q7, q8, q9, q10, q12, q19, q20, q21, q22])))
theorem q24 {n : Nat} {t : Tp} (ht : TW t) : Gives ((G (n + 6)).cl 24 [.tp] t) fun x => x = .bool true := by
  refine cl_do (F := ⟨1, 6, b__law_two_right⟩) rfl rfl ?_
  unfold b__law_two_right
  walk_at "e6"
  refine (pick _ 108 t (by decide) (by decide) ht).use fun x m t ht hx => ?_
  obtain ⟨p, rfl, p1, p2⟩ := hx
  walk_at "e6"
  refine (pick _ 25 t (by decide) (by decide) ht).use fun x m t ht hx => ?_
  obtain ⟨d, rfl, d1, d2⟩ := hx
  walk_at "e6"
  refine (pick _ 7 t (by decide) (by decide) ht).use fun x m t ht hx => ?_
  obtain ⟨d', rfl, d1', d2'⟩ := hx
  walk_at "e6"
  refine (any _ _ t (by exact List.cons_ne_nil _ _) (by exact Nat.le_of_ble_eq_true rfl) ht).use fun x m t ht hx => ?_
  have hx : ∃ z, x = .int z := by
    simp only [List.mem_cons, List.not_mem_nil, or_false] at hx
    rcases hx with rfl | rfl | rfl <;> exact ⟨_, rfl⟩
  obtain ⟨z, rfl⟩ := hx
  walk_at "e6"
  obtain ⟨w, ew, w1, w2⟩ := mm (g := p + z)
  rw [ew]
  refine ⟨_, if_pos ⟨by decide, by decide⟩, _, wk_l (Nat.le_of_ble_eq_true rfl), ?_⟩
  refine WO_rng (J := fun k s => ∃ a b c, 1 ≤ k ∧ s = ⟨[some .tp, some (.d (.int p)), some (.d (.int w)), a, b, c], [false, false, false, false, false, false], t⟩) (fun k s hk hJ => ?_) (fun s hJ => ?_) _ 1 _ rfl (by decide) ⟨none, none, none, by decide, rfl⟩
  · obtain ⟨a, b, c, hk0, rfl⟩ := hJ
    refine ⟨_, rfl, ?_⟩
    walk_at "e6"
    refine ⟨_, if_pos ⟨by decide, by decide⟩, _, wk_l (Nat.le_of_ble_eq_true rfl), ?_⟩
    refine WO_rng (J := fun j s => ∃ b c, 1 ≤ j ∧ s = ⟨[some .tp, some (.d (.int p)), some (.d (.int w)), some (.d (.int k)), b, c], [false, false, false, false, false, false], t⟩) (fun j s hj hJ => ?_) (fun s hJ => ?_) _ 1 _ rfl (by decide) ⟨_, _, by decide, rfl⟩
    · obtain ⟨b, c, hj0, rfl⟩ := hJ
      refine ⟨_, rfl, ?_⟩
      have k1 : p ≤ 107 := by omega
      have k2 : k ≤ 5 := by omega
      have k3 : j ≤ 5 := by omega
      have k4 : ¬ rc p k w j < 0 := by have := rc_ge (one := p) (a := k) (other := w) (b := j); omega
      cases hp : bk p with
      | true =>
        walk_at "e6"
        exact ⟨_, _, by omega, rfl⟩
      | false =>
        cases hw : bk w with
        | true =>
          walk_at "e6"
          exact ⟨_, _, by omega, rfl⟩
        | false =>
          have es := rc_sym (a := k) (b := j) hp hw
          walk_at "e6"
          exact ⟨_, _, by omega, rfl⟩
    · obtain ⟨b, c, hj0, rfl⟩ := hJ
      exact ⟨_, _, _, by omega, rfl⟩
  · obtain ⟨a, b, c, hk0, rfl⟩ := hJ
    walk_at "e6"

def hb : St := (.seq (.set (.nm 3) (.lst (.cons (.isx 2 1) (.cons (.isx 2 2) (.cons (.isx 2 3) .nil)))))
  (.seq (.app 3 (.isx 2 4))
  (.ife (.and (.cmp .eq (.met .count (.var 3) (.cons (.bl true) .nil)) (.int 1)) (.isx 2 1000)) (.set (.nm 1) (.idx (.lst (.cons (.str "!NoFinger") (.cons (.str "!NoFingers") (.cons (.str "!NoLine") (.cons (.str "!NoPitch") .nil))))) (.met .index (.var 3) (.cons (.bl true) .nil)))) .nop)))
def tags : List (Nat × Str) := [(1, "!NoFinger"), (2, "!NoFingers"), (3, "!NoLine"), (4, "!NoPitch")]
theorem hb_ok {n : Nat} {t : Tp} {c : Nat} {tag : Str} (h : (c, tag) ∈ tags) : ∃ s', evS (G n) hb ⟨[none, none, some (.exc c []), none], [false, false, false, false], t⟩ = .nx s' ∧ s'.t = t ∧ ∃ a b, s'.r = [none, some (.d (.str tag)), a, b] ∧ s'.fl.length = 4 := by
  simp only [tags, List.mem_cons, List.not_mem_nil, or_false, Prod.mk.injEq] at h
  rcases h with ⟨rfl, rfl⟩ | ⟨rfl, rfl⟩ | ⟨rfl, rfl⟩ | ⟨rfl, rfl⟩ <;> cases n <;> exact ⟨_, rfl, rfl, _, _, rfl, rfl⟩
local macro_rules | `(tactic| walk_at "e13") => `(tactic| ((try simp only [WO_seq, WO_set, WO_ret, WO_ife, WO_exp, WO_forr, WO_nop, WO_retn, WO_par, WO_if, WO_nx, WO_rt, WO_tst, W_bind, W_ok, W_some, W_none, W_lift, W_if, W_quiet, vs_var, vR_var, vs_non, vR_non, vs_bl, vR_bl, vs_int, vR_int, vs_str, vR_str, vs_glb, vR_glb, vs_scs, vR_scs, vs_tup, vR_tup, vs_lst, vR_lst, vs_dic, vR_dic, vs_bin, vR_bin, vs_neg, vR_neg, vs_not, vR_not, vs_and, vR_and, vs_or, vR_or, vs_cmp, vR_cmp, vs_cm2, vR_cm2, vs_isn, vR_isn, vs_nsn, vR_nsn, vs_ite, vs_idx, vR_idx, vs_tix, vR_tix, vs_sli, vR_sli, vs_rev, vR_rev, vs_call, vs_bi, vR_bi, vs_isi, vR_isi, vs_met, vR_met, vs_comp, vR_comp, vs_dcom, vR_dcom, vs_comp2, vR_comp2, vs_rng, vR_rng, vs_rn3, vR_rn3, vs_enu, vR_enu, vs_zip, vR_zip, vs_vals, vR_vals, vs_its, vR_its, vs_lof, vR_lof, vs_act, vR_act, vs_isx, vR_isx, vs_plc, vR_plc, vs_srt, vR_srt, vs_rv2, vR_rv2, vs_tof, vR_tof, vs_gix, vR_gix, vs_nil, vs_tpv, vs_scv, vs_lam, vR_call, vR_ite, gv_0, gv_s, ix_l0, ix_l1, ix_l2, ix_l3, ix_l4, ix_l5, ix_l6, ix_l7, ix_t0, ix_t1, ix_t2, ix_t3, ix_t4, ix_t5, ix_t6, ix_t7, st_l0, st_l1, st_l2, st_l3, st_l4, tr_b, tr_i, cm_eq, cm_ne, cm_lt, cm_gt, cm_le, cm_ge, bn_add, bn_sub, bi_int, bi_lenl, bi_lent, al_nil, al_cons, fx_i, fx_b, fx_s, fx_n, fx_l, fx_t, fx_d, mu_i, mu_b, mu_s, mu_n, mu_t, mu_l, mu_d, co_i, co_b, co_s, co_n, co_t, co_l, co_d, se_0, se_s, ex_some, Option.map_some, Option.bind_some, Bool.false_eq_true, if_false, if_true, decide_eq_true_eq, Bool.and_false, Bool.false_and, Bool.and_true, Bool.true_and, Bool.or_false, Bool.false_or, Ev.fresh, ownV, bd_ok, lift_some, part_t, part_f, test_t, test_f, as_i, isNil, blank, slotsP, isTy, List.any_cons, List.any_nil, Bool.not_true, Bool.not_false, List.map_cons, List.map_nil, List.cons_append, List.nil_append, List.replicate_succ, List.replicate_zero, Nat.reduceSub, and_self, and_true, true_and, Int.reduceSub, Int.reduceAdd, Int.reduceNeg, Int.reduceMul, Int.reduceLT, Int.reduceLE, decide_true, decide_false, not_true_eq_false, not_false_eq_true, Prod.mk.injEq, bn_mod, bn_fdiv', bn_mull, bn_mulr, bi_max3, bi_max2, bi_min2, bi_abs, bi_bool, cm_mem, cm_nmem, Int.reducePow, WO_app, own_eq, fl_0, fl_s, setD_eq, fz, retE, ev_var, ev_non, ev_bl, ev_int, ev_str, ev_glb, ev_tup, ev_lst, ev_dic, ev_bin, ev_neg, ev_not, ev_and, ev_or, ev_cmp, ev_cm2, ev_isn, ev_nsn, ev_ite, ev_idx, ev_tix, ev_scs, ev_sli, ev_rev, ev_call, ev_isi, ev_met, ev_gix, ev_lof, ev_tof, ev_rv2, ev_act, ev_isx, ev_plc, ev_rng, ev_rn3, ev_enu, ev_zip, ev_vals, ev_its, ev_comp, ev_comp2, ev_dcom, ev_srt, asg_nm, asg_tt, asg_tl, asgs_nil, asgs_cons, ev_bi, fx_nil, WO_stp, fr_1, fr_2, fr_3, fr_4, fr_5, fr_6, fr_7, fr_8, fr_9, fr_10, fr_11, fr_12, fr_13, fr_14, fr_15, fr_16, lfz_app, List.append_nil, WO_aug, WO_trya, WO_tryl, augD, bd_exc, gd_0, gd_s, cb_eq, cb_ne, WO_fnil, WO_fcons, *, WO_trya, shut_cons, shut_nil, unexc, List.length_cons, List.length_nil, Nat.reduceAdd]); repeat ((first | refine Wn_mk ?_ | refine Wf_mk ?_); try simp only [WO_seq, WO_set, WO_ret, WO_ife, WO_exp, WO_forr, WO_nop, WO_retn, WO_par, WO_if, WO_nx, WO_rt, WO_tst, W_bind, W_ok, W_some, W_none, W_lift, W_if, W_quiet, vs_var, vR_var, vs_non, vR_non, vs_bl, vR_bl, vs_int, vR_int, vs_str, vR_str, vs_glb, vR_glb, vs_scs, vR_scs, vs_tup, vR_tup, vs_lst, vR_lst, vs_dic, vR_dic, vs_bin, vR_bin, vs_neg, vR_neg, vs_not, vR_not, vs_and, vR_and, vs_or, vR_or, vs_cmp, vR_cmp, vs_cm2, vR_cm2, vs_isn, vR_isn, vs_nsn, vR_nsn, vs_ite, vs_idx, vR_idx, vs_tix, vR_tix, vs_sli, vR_sli, vs_rev, vR_rev, vs_call, vs_bi, vR_bi, vs_isi, vR_isi, vs_met, vR_met, vs_comp, vR_comp, vs_dcom, vR_dcom, vs_comp2, vR_comp2, vs_rng, vR_rng, vs_rn3, vR_rn3, vs_enu, vR_enu, vs_zip, vR_zip, vs_vals, vR_vals, vs_its, vR_its, vs_lof, vR_lof, vs_act, vR_act, vs_isx, vR_isx, vs_plc, vR_plc, vs_srt, vR_srt, vs_rv2, vR_rv2, vs_tof, vR_tof, vs_gix, vR_gix, vs_nil, vs_tpv, vs_scv, vs_lam, vR_call, vR_ite, gv_0, gv_s, ix_l0, ix_l1, ix_l2, ix_l3, ix_l4, ix_l5, ix_l6, ix_l7, ix_t0, ix_t1, ix_t2, ix_t3, ix_t4, ix_t5, ix_t6, ix_t7, st_l0, st_l1, st_l2, st_l3, st_l4, tr_b, tr_i, cm_eq, cm_ne, cm_lt, cm_gt, cm_le, cm_ge, bn_add, bn_sub, bi_int, bi_lenl, bi_lent, al_nil, al_cons, fx_i, fx_b, fx_s, fx_n, fx_l, fx_t, fx_d, mu_i, mu_b, mu_s, mu_n, mu_t, mu_l, mu_d, co_i, co_b, co_s, co_n, co_t, co_l, co_d, se_0, se_s, ex_some, Option.map_some, Option.bind_some, Bool.false_eq_true, if_false, if_true, decide_eq_true_eq, Bool.and_false, Bool.false_and, Bool.and_true, Bool.true_and, Bool.or_false, Bool.false_or, Ev.fresh, ownV, bd_ok, lift_some, part_t, part_f, test_t, test_f, as_i, isNil, blank, slotsP, isTy, List.any_cons, List.any_nil, Bool.not_true, Bool.not_false, List.map_cons, List.map_nil, List.cons_append, List.nil_append, List.replicate_succ, List.replicate_zero, Nat.reduceSub, and_self, and_true, true_and, Int.reduceSub, Int.reduceAdd, Int.reduceNeg, Int.reduceMul, Int.reduceLT, Int.reduceLE, decide_true, decide_false, not_true_eq_false, not_false_eq_true, Prod.mk.injEq, bn_mod, bn_fdiv', bn_mull, bn_mulr, bi_max3, bi_max2, bi_min2, bi_abs, bi_bool, cm_mem, cm_nmem, Int.reducePow, WO_app, own_eq, fl_0, fl_s, setD_eq, fz, retE, ev_var, ev_non, ev_bl, ev_int, ev_str, ev_glb, ev_tup, ev_lst, ev_dic, ev_bin, ev_neg, ev_not, ev_and, ev_or, ev_cmp, ev_cm2, ev_isn, ev_nsn, ev_ite, ev_idx, ev_tix, ev_scs, ev_sli, ev_rev, ev_call, ev_isi, ev_met, ev_gix, ev_lof, ev_tof, ev_rv2, ev_act, ev_isx, ev_plc, ev_rng, ev_rn3, ev_enu, ev_zip, ev_vals, ev_its, ev_comp, ev_comp2, ev_dcom, ev_srt, asg_nm, asg_tt, asg_tl, asgs_nil, asgs_cons, ev_bi, fx_nil, WO_stp, fr_1, fr_2, fr_3, fr_4, fr_5, fr_6, fr_7, fr_8, fr_9, fr_10, fr_11, fr_12, fr_13, fr_14, fr_15, fr_16, lfz_app, List.append_nil, WO_aug, WO_trya, WO_tryl, augD, bd_exc, gd_0, gd_s, cb_eq, cb_ne, WO_fnil, WO_fcons, *, WO_trya, shut_cons, shut_nil, unexc, List.length_cons, List.length_nil, Nat.reduceAdd])))
local macro_rules | `(tactic| walk_at "f1") => `(tactic| ((try simp only [WO_seq, WO_set, WO_ret, WO_ife, WO_exp, WO_forr, WO_nop, WO_retn, WO_par, WO_if, WO_nx, WO_rt, WO_tst, W_bind, W_ok, W_some, W_none, W_lift, W_if, W_quiet, vs_var, vR_var, vs_non, vR_non, vs_bl, vR_bl, vs_int, vR_int, vs_str, vR_str, vs_glb, vR_glb, vs_scs, vR_scs, vs_tup, vR_tup, vs_lst, vR_lst, vs_dic, vR_dic, vs_bin, vR_bin, vs_neg, vR_neg, vs_not, vR_not, vs_and, vR_and, vs_or, vR_or, vs_cmp, vR_cmp, vs_cm2, vR_cm2, vs_isn, vR_isn, vs_nsn, vR_nsn, vs_ite, vs_idx, vR_idx, vs_tix, vR_tix, vs_sli, vR_sli, vs_rev, vR_rev, vs_call, vs_bi, vR_bi, vs_isi, vR_isi, vs_met, vR_met, vs_comp, vR_comp, vs_dcom, vR_dcom, vs_comp2, vR_comp2, vs_rng, vR_rng, vs_rn3, vR_rn3, vs_enu, vR_enu, vs_zip, vR_zip, vs_vals, vR_vals, vs_its, vR_its, vs_lof, vR_lof, vs_act, vR_act, vs_isx, vR_isx, vs_plc, vR_plc, vs_srt, vR_srt, vs_rv2, vR_rv2, vs_tof, vR_tof, vs_gix, vR_gix, vs_nil, vs_tpv, vs_scv, vs_lam, vR_call, vR_ite, gv_0, gv_s, ix_l0, ix_l1, ix_l2, ix_l3, ix_l4, ix_l5, ix_l6, ix_l7, ix_t0, ix_t1, ix_t2, ix_t3, ix_t4, ix_t5, ix_t6, ix_t7, st_l0, st_l1, st_l2, st_l3, st_l4, tr_b, tr_i, cm_eq, cm_ne, cm_lt, cm_gt, cm_le, cm_ge, bn_add, bn_sub, bi_int, bi_lenl, bi_lent, al_nil, al_cons, fx_i, fx_b, fx_s, fx_n, fx_l, fx_t, fx_d, mu_i, mu_b, mu_s, mu_n, mu_t, mu_l, mu_d, co_i, co_b, co_s, co_n, co_t, co_l, co_d, se_0, se_s, ex_some, Option.map_some, Option.bind_some, Bool.false_eq_true, if_false, if_true, decide_eq_true_eq, Bool.and_false, Bool.false_and, Bool.and_true, Bool.true_and, Bool.or_false, Bool.false_or, Ev.fresh, ownV, bd_ok, lift_some, part_t, part_f, test_t, test_f, as_i, isNil, blank, slotsP, isTy, List.any_cons, List.any_nil, Bool.not_true, Bool.not_false, List.map_cons, List.map_nil, List.cons_append, List.nil_append, List.replicate_succ, List.replicate_zero, Nat.reduceSub, and_self, and_true, true_and, Int.reduceSub, Int.reduceAdd, Int.reduceNeg, Int.reduceMul, Int.reduceLT, Int.reduceLE, decide_true, decide_false, not_true_eq_false, not_false_eq_true, Prod.mk.injEq, bn_mod, bn_fdiv', bn_mull, bn_mulr, bi_max3, bi_max2, bi_min2, bi_abs, bi_bool, cm_mem, cm_nmem, Int.reducePow, WO_app, own_eq, fl_0, fl_s, setD_eq, fz, retE, ev_var, ev_non, ev_bl, ev_int, ev_str, ev_glb, ev_tup, ev_lst, ev_dic, ev_bin, ev_neg, ev_not, ev_and, ev_or, ev_cmp, ev_cm2, ev_isn, ev_nsn, ev_ite, ev_idx, ev_tix, ev_scs, ev_sli, ev_rev, ev_call, ev_isi, ev_met, ev_gix, ev_lof, ev_tof, ev_rv2, ev_act, ev_isx, ev_plc, ev_rng, ev_rn3, ev_enu, ev_zip, ev_vals, ev_its, ev_comp, ev_comp2, ev_dcom, ev_srt, asg_nm, asg_tt, asg_tl, asgs_nil, asgs_cons, ev_bi, fx_nil, WO_stp, fr_1, fr_2, fr_3, fr_4, fr_5, fr_6, fr_7, fr_8, fr_9, fr_10, fr_11, fr_12, fr_13, fr_14, fr_15, fr_16, lfz_app, List.append_nil, WO_aug, WO_trya, WO_tryl, augD, bd_exc, gd_0, gd_s, cb_eq, cb_ne, WO_fnil, WO_fcons, *, bd_exc, shut_cons, shut_nil]); repeat ((first | refine Wn_mk ?_ | refine Wf_mk ?_); try simp only [WO_seq, WO_set, WO_ret, WO_ife, WO_exp, WO_forr, WO_nop, WO_retn, WO_par, WO_if, WO_nx, WO_rt, WO_tst, W_bind, W_ok, W_some, W_none, W_lift, W_if, W_quiet, vs_var, vR_var, vs_non, vR_non, vs_bl, vR_bl, vs_int, vR_int, vs_str, vR_str, vs_glb, vR_glb, vs_scs, vR_scs, vs_tup, vR_tup, vs_lst, vR_lst, vs_dic, vR_dic, vs_bin, vR_bin, vs_neg, vR_neg, vs_not, vR_not, vs_and, vR_and, vs_or, vR_or, vs_cmp, vR_cmp, vs_cm2, vR_cm2, vs_isn, vR_isn, vs_nsn, vR_nsn, vs_ite, vs_idx, vR_idx, vs_tix, vR_tix, vs_sli, vR_sli, vs_rev, vR_rev, vs_call, vs_bi, vR_bi, vs_isi, vR_isi, vs_met, vR_met, vs_comp, vR_comp, vs_dcom, vR_dcom, vs_comp2, vR_comp2, vs_rng, vR_rng, vs_rn3, vR_rn3, vs_enu, vR_enu, vs_zip, vR_zip, vs_vals, vR_vals, vs_its, vR_its, vs_lof, vR_lof, vs_act, vR_act, vs_isx, vR_isx, vs_plc, vR_plc, vs_srt, vR_srt, vs_rv2, vR_rv2, vs_tof, vR_tof, vs_gix, vR_gix, vs_nil, vs_tpv, vs_scv, vs_lam, vR_call, vR_ite, gv_0, gv_s, ix_l0, ix_l1, ix_l2, ix_l3, ix_l4, ix_l5, ix_l6, ix_l7, ix_t0, ix_t1, ix_t2, ix_t3, ix_t4, ix_t5, ix_t6, ix_t7, st_l0, st_l1, st_l2, st_l3, st_l4, tr_b, tr_i, cm_eq, cm_ne, cm_lt, cm_gt, cm_le, cm_ge, bn_add, bn_sub, bi_int, bi_lenl, bi_lent, al_nil, al_cons, fx_i, fx_b, fx_s, fx_n, fx_l, fx_t, fx_d, mu_i, mu_b, mu_s, mu_n, mu_t, mu_l, mu_d, co_i, co_b, co_s, co_n, co_t, co_l, co_d, se_0, se_s, ex_some, Option.map_some, Option.bind_some, Bool.false_eq_true, if_false, if_true, decide_eq_true_eq, Bool.and_false, Bool.false_and, Bool.and_true, Bool.true_and, Bool.or_false, Bool.false_or, Ev.fresh, ownV, bd_ok, lift_some, part_t, part_f, test_t, test_f, as_i, isNil, blank, slotsP, isTy, List.any_cons, List.any_nil, Bool.not_true, Bool.not_false, List.map_cons, List.map_nil, List.cons_append, List.nil_append, List.replicate_succ, List.replicate_zero, Nat.reduceSub, and_self, and_true, true_and, Int.reduceSub, Int.reduceAdd, Int.reduceNeg, Int.reduceMul, Int.reduceLT, Int.reduceLE, decide_true, decide_false, not_true_eq_false, not_false_eq_true, Prod.mk.injEq, bn_mod, bn_fdiv', bn_mull, bn_mulr, bi_max3, bi_max2, bi_min2, bi_abs, bi_bool, cm_mem, cm_nmem, Int.reducePow, WO_app, own_eq, fl_0, fl_s, setD_eq, fz, retE, ev_var, ev_non, ev_bl, ev_int, ev_str, ev_glb, ev_tup, ev_lst, ev_dic, ev_bin, ev_neg, ev_not, ev_and, ev_or, ev_cmp, ev_cm2, ev_isn, ev_nsn, ev_ite, ev_idx, ev_tix, ev_scs, ev_sli, ev_rev, ev_call, ev_isi, ev_met, ev_gix, ev_lof, ev_tof, ev_rv2, ev_act, ev_isx, ev_plc, ev_rng, ev_rn3, ev_enu, ev_zip, ev_vals, ev_its, ev_comp, ev_comp2, ev_dcom, ev_srt, asg_nm, asg_tt, asg_tl, asgs_nil, asgs_cons, ev_bi, fx_nil, WO_stp, fr_1, fr_2, fr_3, fr_4, fr_5, fr_6, fr_7, fr_8, fr_9, fr_10, fr_11, fr_12, fr_13, fr_14, fr_15, fr_16, lfz_app, List.append_nil, WO_aug, WO_trya, WO_tryl, augD, bd_exc, gd_0, gd_s, cb_eq, cb_ne, WO_fnil, WO_fcons, *, bd_exc, shut_cons, shut_nil])))
theorem word {n : Nat} {t : Tp} {b : Ex} {r : List (Option PyData)} {c : Nat} {tag : Str} (h : (c, tag) ∈ tags) (e : ev (G n) b (r.map fun o => o.map .d) t = .exc c [] t) : ∃ m, (G (n + 2)).cl 18 [.lam b r] t = .ok (.str tag, m) t := by
  refine eqm (cl_do (F := ⟨1, 4, b__law_word⟩) rfl rfl ?_)
  have e2 : (cal L.gl L.fns L.wf (n + 1)).act b (r.map fun o => o.map .d) t = .exc c [] t := e
  obtain ⟨s', h1, h2, a, b', h3, h4⟩ := hb_ok (n := n + 1) (t := t) h
  show WO (evS _ (.seq (.set (.nm 1) (.str "!other")) (.seq (.trya 1 2 hb) (.ret (.var 1)))) ⟨[some (.lam b r), none, none, none], [false, false, false, false], t⟩) _ _
  walk_at "e13"
theorem word_W {n : Nat} {t : Tp} {b : Ex} {r : List (Option PyData)} {c : Nat} {tag : Str} {Q : PyData × Bool → Tp → Prop} (h : (c, tag) ∈ tags) (e : ev (G n) b (r.map fun o => o.map .d) t = .exc c [] t) (k : ∀ m, Q (.str tag, m) t) : W ((G (n + 2)).cl 18 [.lam b r] t) Q := by
  obtain ⟨m, q⟩ := word h e
  exact W.of q (k m)
theorem tab {P : PyData → Bool} {xs : List PyData} (h : xs.all P = true) {x : PyData} (m : x ∈ xs) : P x = true := List.all_eq_true.mp h x m
theorem tg {k : Nat} {tag : Str} (h : (tags.any fun p => decide (p.1 = k) && decide (p.2 = tag)) = true) : (k, tag) ∈ tags := by
  obtain ⟨p, m, e⟩ := List.any_eq_true.mp h
  rw [Bool.and_eq_true] at e
  have e1 := of_decide_eq_true e.1
  have e2 := of_decide_eq_true e.2
  subst e1 e2
  exact m
def BLn : List PyData := [.none, .tuple [], .list [.int 60], .tuple [.int 108], .tuple [.int (-1)], .tuple [.bool true], .tuple [.str "60"], .tuple (List.replicate 25 (.int 60)), .int 60, .str "60", .tuple [.none]]
def BPt : List PyData := [.none, .int (-1), .int 108, .bool true, .str "60"]
def BFn : List PyData := [.none, .int 0, .int 6, .bool true, .str "1", .int (-1)]
theorem w1 : (BPt.all fun p => BFn.all fun f => xcB ((G 6).cl 10 [.d p, .d f, .d p, .d f] none) 4) = true := by decide +kernel
theorem w2 : (BPt.all fun p => BFn.all fun f => xcB ((G 6).cl 10 [.d (.int 60), .d f, .d p, .d (.int 1)] none) 1) = true := by decide +kernel
theorem w3 : (BPt.all fun p => BFn.all fun f => xcB ((G 6).cl 10 [.d (.int 60), .d (.int 1), .d p, .d f] none) 4) = true := by decide +kernel
theorem w4 : (BFn.all fun f => xcB ((G 6).cl 10 [.d (.int 60), .d (.int 1), .d (.int 62), .d f] none) 1) = true := by decide +kernel
theorem w5 : (BLn.all fun l => xcB ((G 7).cl 13 [.d l, .d .none] none) 3) = true := by decide +kernel
local macro_rules | `(tactic| walk_at "f3") => `(tactic| ((try simp only [WO_seq, WO_set, WO_ret, WO_ife, WO_exp, WO_forr, WO_nop, WO_retn, WO_par, WO_if, WO_nx, WO_rt, WO_tst, W_bind, W_ok, W_some, W_none, W_lift, W_if, W_quiet, vs_var, vR_var, vs_non, vR_non, vs_bl, vR_bl, vs_int, vR_int, vs_str, vR_str, vs_glb, vR_glb, vs_scs, vR_scs, vs_tup, vR_tup, vs_lst, vR_lst, vs_dic, vR_dic, vs_bin, vR_bin, vs_neg, vR_neg, vs_not, vR_not, vs_and, vR_and, vs_or, vR_or, vs_cmp, vR_cmp, vs_cm2, vR_cm2, vs_isn, vR_isn, vs_nsn, vR_nsn, vs_ite, vs_idx, vR_idx, vs_tix, vR_tix, vs_sli, vR_sli, vs_rev, vR_rev, vs_call, vs_bi, vR_bi, vs_isi, vR_isi, vs_met, vR_met, vs_comp, vR_comp, vs_dcom, vR_dcom, vs_comp2, vR_comp2, vs_rng, vR_rng, vs_rn3, vR_rn3, vs_enu, vR_enu, vs_zip, vR_zip, vs_vals, vR_vals, vs_its, vR_its, vs_lof, vR_lof, vs_act, vR_act, vs_isx, vR_isx, vs_plc, vR_plc, vs_srt, vR_srt, vs_rv2, vR_rv2, vs_tof, vR_tof, vs_gix, vR_gix, vs_nil, vs_tpv, vs_scv, vs_lam, vR_call, vR_ite, gv_0, gv_s, ix_l0, ix_l1, ix_l2, ix_l3, ix_l4, ix_l5, ix_l6, ix_l7, ix_t0, ix_t1, ix_t2, ix_t3, ix_t4, ix_t5, ix_t6, ix_t7, st_l0, st_l1, st_l2, st_l3, st_l4, tr_b, tr_i, cm_eq, cm_ne, cm_lt, cm_gt, cm_le, cm_ge, bn_add, bn_sub, bi_int, bi_lenl, bi_lent, al_nil, al_cons, fx_i, fx_b, fx_s, fx_n, fx_l, fx_t, fx_d, mu_i, mu_b, mu_s, mu_n, mu_t, mu_l, mu_d, co_i, co_b, co_s, co_n, co_t, co_l, co_d, se_0, se_s, ex_some, Option.map_some, Option.bind_some, Bool.false_eq_true, if_false, if_true, decide_eq_true_eq, Bool.and_false, Bool.false_and, Bool.and_true, Bool.true_and, Bool.or_false, Bool.false_or, Ev.fresh, ownV, bd_ok, lift_some, part_t, part_f, test_t, test_f, as_i, isNil, blank, slotsP, isTy, List.any_cons, List.any_nil, Bool.not_true, Bool.not_false, List.map_cons, List.map_nil, List.cons_append, List.nil_append, List.replicate_succ, List.replicate_zero, Nat.reduceSub, and_self, and_true, true_and, Int.reduceSub, Int.reduceAdd, Int.reduceNeg, Int.reduceMul, Int.reduceLT, Int.reduceLE, decide_true, decide_false, not_true_eq_false, not_false_eq_true, Prod.mk.injEq, bn_mod, bn_fdiv', bn_mull, bn_mulr, bi_max3, bi_max2, bi_min2, bi_abs, bi_bool, cm_mem, cm_nmem, Int.reducePow, WO_app, own_eq, fl_0, fl_s, setD_eq, fz, retE, ev_var, ev_non, ev_bl, ev_int, ev_str, ev_glb, ev_tup, ev_lst, ev_dic, ev_bin, ev_neg, ev_not, ev_and, ev_or, ev_cmp, ev_cm2, ev_isn, ev_nsn, ev_ite, ev_idx, ev_tix, ev_scs, ev_sli, ev_rev, ev_call, ev_isi, ev_met, ev_gix, ev_lof, ev_tof, ev_rv2, ev_act, ev_isx, ev_plc, ev_rng, ev_rn3, ev_enu, ev_zip, ev_vals, ev_its, ev_comp, ev_comp2, ev_dcom, ev_srt, asg_nm, asg_tt, asg_tl, asgs_nil, asgs_cons, ev_bi, fx_nil, WO_stp, fr_1, fr_2, fr_3, fr_4, fr_5, fr_6, fr_7, fr_8, fr_9, fr_10, fr_11, fr_12, fr_13, fr_14, fr_15, fr_16, lfz_app, List.append_nil, WO_aug, WO_trya, WO_tryl, augD, bd_exc, gd_0, gd_s, cb_eq, cb_ne, WO_fnil, WO_fcons, *, line_n, List.length_cons, List.length_nil, Nat.reduceAdd, Nat.reduceLT, shut_cons, shut_nil]); repeat ((first | refine Wn_mk ?_ | refine Wf_mk ?_); try simp only [WO_seq, WO_set, WO_ret, WO_ife, WO_exp, WO_forr, WO_nop, WO_retn, WO_par, WO_if, WO_nx, WO_rt, WO_tst, W_bind, W_ok, W_some, W_none, W_lift, W_if, W_quiet, vs_var, vR_var, vs_non, vR_non, vs_bl, vR_bl, vs_int, vR_int, vs_str, vR_str, vs_glb, vR_glb, vs_scs, vR_scs, vs_tup, vR_tup, vs_lst, vR_lst, vs_dic, vR_dic, vs_bin, vR_bin, vs_neg, vR_neg, vs_not, vR_not, vs_and, vR_and, vs_or, vR_or, vs_cmp, vR_cmp, vs_cm2, vR_cm2, vs_isn, vR_isn, vs_nsn, vR_nsn, vs_ite, vs_idx, vR_idx, vs_tix, vR_tix, vs_sli, vR_sli, vs_rev, vR_rev, vs_call, vs_bi, vR_bi, vs_isi, vR_isi, vs_met, vR_met, vs_comp, vR_comp, vs_dcom, vR_dcom, vs_comp2, vR_comp2, vs_rng, vR_rng, vs_rn3, vR_rn3, vs_enu, vR_enu, vs_zip, vR_zip, vs_vals, vR_vals, vs_its, vR_its, vs_lof, vR_lof, vs_act, vR_act, vs_isx, vR_isx, vs_plc, vR_plc, vs_srt, vR_srt, vs_rv2, vR_rv2, vs_tof, vR_tof, vs_gix, vR_gix, vs_nil, vs_tpv, vs_scv, vs_lam, vR_call, vR_ite, gv_0, gv_s, ix_l0, ix_l1, ix_l2, ix_l3, ix_l4, ix_l5, ix_l6, ix_l7, ix_t0, ix_t1, ix_t2, ix_t3, ix_t4, ix_t5, ix_t6, ix_t7, st_l0, st_l1, st_l2, st_l3, st_l4, tr_b, tr_i, cm_eq, cm_ne, cm_lt, cm_gt, cm_le, cm_ge, bn_add, bn_sub, bi_int, bi_lenl, bi_lent, al_nil, al_cons, fx_i, fx_b, fx_s, fx_n, fx_l, fx_t, fx_d, mu_i, mu_b, mu_s, mu_n, mu_t, mu_l, mu_d, co_i, co_b, co_s, co_n, co_t, co_l, co_d, se_0, se_s, ex_some, Option.map_some, Option.bind_some, Bool.false_eq_true, if_false, if_true, decide_eq_true_eq, Bool.and_false, Bool.false_and, Bool.and_true, Bool.true_and, Bool.or_false, Bool.false_or, Ev.fresh, ownV, bd_ok, lift_some, part_t, part_f, test_t, test_f, as_i, isNil, blank, slotsP, isTy, List.any_cons, List.any_nil, Bool.not_true, Bool.not_false, List.map_cons, List.map_nil, List.cons_append, List.nil_append, List.replicate_succ, List.replicate_zero, Nat.reduceSub, and_self, and_true, true_and, Int.reduceSub, Int.reduceAdd, Int.reduceNeg, Int.reduceMul, Int.reduceLT, Int.reduceLE, decide_true, decide_false, not_true_eq_false, not_false_eq_true, Prod.mk.injEq, bn_mod, bn_fdiv', bn_mull, bn_mulr, bi_max3, bi_max2, bi_min2, bi_abs, bi_bool, cm_mem, cm_nmem, Int.reducePow, WO_app, own_eq, fl_0, fl_s, setD_eq, fz, retE, ev_var, ev_non, ev_bl, ev_int, ev_str, ev_glb, ev_tup, ev_lst, ev_dic, ev_bin, ev_neg, ev_not, ev_and, ev_or, ev_cmp, ev_cm2, ev_isn, ev_nsn, ev_ite, ev_idx, ev_tix, ev_scs, ev_sli, ev_rev, ev_call, ev_isi, ev_met, ev_gix, ev_lof, ev_tof, ev_rv2, ev_act, ev_isx, ev_plc, ev_rng, ev_rn3, ev_enu, ev_zip, ev_vals, ev_its, ev_comp, ev_comp2, ev_dcom, ev_srt, asg_nm, asg_tt, asg_tl, asgs_nil, asgs_cons, ev_bi, fx_nil, WO_stp, fr_1, fr_2, fr_3, fr_4, fr_5, fr_6, fr_7, fr_8, fr_9, fr_10, fr_11, fr_12, fr_13, fr_14, fr_15, fr_16, lfz_app, List.append_nil, WO_aug, WO_trya, WO_tryl, augD, bd_exc, gd_0, gd_s, cb_eq, cb_ne, WO_fnil, WO_fcons, *, line_n, List.length_cons, List.length_nil, Nat.reduceAdd, Nat.reduceLT, shut_cons, shut_nil])))
theorem q26 {n : Nat} {t : Tp} (ht : TW t) : Gives ((G (n + 10)).cl 26 [.tp] t) fun x => x = .bool true := by
  refine cl_do (F := ⟨1, 5, b__law_refused⟩) rfl rfl ?_
  unfold b__law_refused
  walk_at "f3"
  refine ⟨_, rfl, ?_⟩
  refine (any _ BLn t (by exact List.cons_ne_nil _ _) (by exact Nat.le_of_ble_eq_true rfl) ht).use fun l m t ht hl => ?_
  walk_at "f3"
  refine (any _ BPt t (by decide) (by decide) ht).use fun p m t ht hp => ?_
  walk_at "f3"
  refine (any _ BFn t (by decide) (by decide) ht).use fun f m t ht hf => ?_
  have y1 : ∀ k t, (G (k + 7)).cl 10 [.d p, .d f, .d p, .d f] t = .exc 4 [] t := fun k t => cx_tab hc (by omega) (tab (tab w1 hp) hf) t
  have y2 : ∀ k t, (G (k + 7)).cl 10 [.d (.int 60), .d f, .d p, .d (.int 1)] t = .exc 1 [] t := fun k t => cx_tab hc (by omega) (tab (tab w2 hp) hf) t
  have y3 : ∀ k t, (G (k + 7)).cl 10 [.d (.int 60), .d (.int 1), .d p, .d f] t = .exc 4 [] t := fun k t => cx_tab hc (by omega) (tab (tab w3 hp) hf) t
  have y4 : ∀ k t, (G (k + 7)).cl 10 [.d (.int 60), .d (.int 1), .d (.int 62), .d f] t = .exc 1 [] t := fun k t => cx_tab hc (by omega) (tab w4 hf) t
  have y5 : ∀ k t, (G (k + 7)).cl 13 [.d l, .d .none] t = .exc 3 [] t := fun k t => cx_tab hc (by omega) (tab w5 hl) t
  walk_at "f3"
  refine word_W (n := n + 7) (tg (k := 4) (tag := "!NoPitch") (by decide +kernel)) (by walk_at "f1") fun m => ?_
  walk_at "f3"
  refine word_W (n := n + 7) (tg (k := 1) (tag := "!NoFinger") (by decide +kernel)) (by walk_at "f1") fun m => ?_
  walk_at "f3"
  refine word_W (n := n + 7) (tg (k := 4) (tag := "!NoPitch") (by decide +kernel)) (by walk_at "f1") fun m => ?_
  walk_at "f3"
  refine word_W (n := n + 7) (tg (k := 1) (tag := "!NoFinger") (by decide +kernel)) (by walk_at "f1") fun m => ?_
  walk_at "f3"
  refine word_W (n := n + 7) (tg (k := 3) (tag := "!NoLine") (by decide +kernel)) (by walk_at "f1") fun m => ?_
  have dd : cmpD .eq (.list [.str "!NoPitch", .str "!NoFinger", .str "!NoPitch", .str "!NoFinger", .str "!NoLine"]) (.list [.str "!NoPitch", .str "!NoFinger", .str "!NoPitch", .str "!NoFinger", .str "!NoLine"]) = some true := by decide +kernel
  walk_at "f3"

end K76

set_option Elab.async false
set_option linter.all false
set_option maxRecDepth 100000
set_option maxHeartbeats 4000000
namespace K76
open PySem Ev
theorem mem_take {ls : List Int} {P : Int → Prop} (h : ∀ p ∈ ls, P p) (k : Nat) : ∀ p ∈ ls.take k, P p := fun p m => h p (List.mem_of_mem_take m)
theorem mem_drop {ls : List Int} {P : Int → Prop} (h : ∀ p ∈ ls, P p) (k : Nat) : ∀ p ∈ ls.drop k, P p := fun p m => h p (List.mem_of_mem_drop m)
theorem gt_drop {ls : List Int} {k : Int} (h : 0 ≤ k) : gt (ls.drop k.toNat) 0 = gt ls k := by
  unfold gt
  rw [List.getD_eq_getElem?_getD, List.getD_eq_getElem?_getD, List.getElem?_drop]
  rfl
theorem gt_take {ls : List Int} {k : Int} (h : 1 ≤ k) : gt (ls.take k.toNat) 0 = gt ls 0 := by
  unfold gt
  rw [List.getD_eq_getElem?_getD, List.getD_eq_getElem?_getD, List.getElem?_take, if_pos (by show (0 : Int).toNat < k.toNat; have : (0 : Int).toNat = 0 := rfl; omega)]
/-- the parts' costs -/
theorem tot_part {ls fs : List Int} {k : Int} (e : ls.length = fs.length) (h0 : 1 ≤ k) (h1 : k < ls.length) : tot (ls.take k.toNat) (fs.take k.toNat) + tot (ls.drop k.toNat) (fs.drop k.toNat) - obk (gt ls k) (gt fs k) + rc (gt ls (k - 1)) (gt fs (k - 1)) (gt ls k) (gt fs k) = tot ls fs := by
  unfold tot
  rw [gt_drop (by omega), gt_drop (by omega), gt_take h0, gt_take h0]
  have p := ps_part (k - 1).toNat ls fs e (by omega)
  have q1 : (k - 1).toNat + 1 = k.toNat := by omega
  have q2 : (((k - 1).toNat : Nat) : Int) = k - 1 := by omega
  have q3 : k - 1 + 1 = k := by omega
  rw [q1, q2, q3] at p
  rw [p]
  omega
def okF (x : PyData) : Bool := match x with
  | .int i => decide (1 ≤ i ∧ i ≤ 5)
  | _ => false
theorem okF_all {fs : List Int} (h : IsF fs) : (fs.map PyData.int).all okF = true := by
  refine List.all_eq_true.mpr fun x m => ?_
  obtain ⟨i, mi, rfl⟩ := List.mem_map.mp m
  exact decide_eq_true (h i mi)
def okP (x : PyData) : Bool := match x with
  | .int i => decide (0 ≤ i ∧ i ≤ 107)
  | _ => false
theorem okP_all {ls : List Int} (h : IsL ls) : (ls.map PyData.int).all okP = true := by
  refine List.all_eq_true.mpr fun x m => ?_
  obtain ⟨i, mi, rfl⟩ := List.mem_map.mp m
  exact decide_eq_true (h i mi)
local macro_rules | `(tactic| walk_at "g1") => `(tactic| ((try simp only [WO_seq, WO_set, WO_ret, WO_ife, WO_exp, WO_forr, WO_nop, WO_retn, WO_par, WO_if, WO_nx, WO_rt, WO_tst, W_bind, W_ok, W_some, W_none, W_lift, W_if, W_quiet, vs_var, vR_var, vs_non, vR_non, vs_bl, vR_bl, vs_int, vR_int, vs_str, vR_str, vs_glb, vR_glb, vs_scs, vR_scs, vs_tup, vR_tup, vs_lst, vR_lst, vs_dic, vR_dic, vs_bin, vR_bin, vs_neg, vR_neg, vs_not, vR_not, vs_and, vR_and, vs_or, vR_or, vs_cmp, vR_cmp, vs_cm2, vR_cm2, vs_isn, vR_isn, vs_nsn, vR_nsn, vs_ite, vs_idx, vR_idx, vs_tix, vR_tix, vs_sli, vR_sli, vs_rev, vR_rev, vs_call, vs_bi, vR_bi, vs_isi, vR_isi, vs_met, vR_met, vs_comp, vR_comp, vs_dcom, vR_dcom, vs_comp2, vR_comp2, vs_rng, vR_rng, vs_rn3, vR_rn3, vs_enu, vR_enu, vs_zip, vR_zip, vs_vals, vR_vals, vs_its, vR_its, vs_lof, vR_lof, vs_act, vR_act, vs_isx, vR_isx, vs_plc, vR_plc, vs_srt, vR_srt, vs_rv2, vR_rv2, vs_tof, vR_tof, vs_gix, vR_gix, vs_nil, vs_tpv, vs_scv, vs_lam, vR_call, vR_ite, gv_0, gv_s, ix_l0, ix_l1, ix_l2, ix_l3, ix_l4, ix_l5, ix_l6, ix_l7, ix_t0, ix_t1, ix_t2, ix_t3, ix_t4, ix_t5, ix_t6, ix_t7, st_l0, st_l1, st_l2, st_l3, st_l4, tr_b, tr_i, cm_eq, cm_ne, cm_lt, cm_gt, cm_le, cm_ge, bn_add, bn_sub, bi_int, bi_lenl, bi_lent, al_nil, al_cons, fx_i, fx_b, fx_s, fx_n, fx_l, fx_t, fx_d, mu_i, mu_b, mu_s, mu_n, mu_t, mu_l, mu_d, co_i, co_b, co_s, co_n, co_t, co_l, co_d, se_0, se_s, ex_some, Option.map_some, Option.bind_some, Bool.false_eq_true, if_false, if_true, decide_eq_true_eq, Bool.and_false, Bool.false_and, Bool.and_true, Bool.true_and, Bool.or_false, Bool.false_or, Ev.fresh, ownV, bd_ok, lift_some, part_t, part_f, test_t, test_f, as_i, isNil, blank, slotsP, isTy, List.any_cons, List.any_nil, Bool.not_true, Bool.not_false, List.map_cons, List.map_nil, List.cons_append, List.nil_append, List.replicate_succ, List.replicate_zero, Nat.reduceSub, and_self, and_true, true_and, Int.reduceSub, Int.reduceAdd, Int.reduceNeg, Int.reduceMul, Int.reduceLT, Int.reduceLE, decide_true, decide_false, not_true_eq_false, not_false_eq_true, Prod.mk.injEq, bn_mod, bn_fdiv', bn_mull, bn_mulr, bi_max3, bi_max2, bi_min2, bi_abs, bi_bool, cm_mem, cm_nmem, Int.reducePow, WO_app, own_eq, fl_0, fl_s, setD_eq, fz, retE, ev_var, ev_non, ev_bl, ev_int, ev_str, ev_glb, ev_tup, ev_lst, ev_dic, ev_bin, ev_neg, ev_not, ev_and, ev_or, ev_cmp, ev_cm2, ev_isn, ev_nsn, ev_ite, ev_idx, ev_tix, ev_scs, ev_sli, ev_rev, ev_call, ev_isi, ev_met, ev_gix, ev_lof, ev_tof, ev_rv2, ev_act, ev_isx, ev_plc, ev_rng, ev_rn3, ev_enu, ev_zip, ev_vals, ev_its, ev_comp, ev_comp2, ev_dcom, ev_srt, asg_nm, asg_tt, asg_tl, asgs_nil, asgs_cons, ev_bi, fx_nil, WO_stp, fr_1, fr_2, fr_3, fr_4, fr_5, fr_6, fr_7, fr_8, fr_9, fr_10, fr_11, fr_12, fr_13, fr_14, fr_15, fr_16, lfz_app, List.append_nil, WO_aug, WO_trya, WO_tryl, augD, bd_exc, gd_0, gd_s, cb_eq, cb_ne, WO_fnil, WO_fcons, *, gb0, gb1, gb2, gb3, gb4, gb5, gb6, gb7, tup_len, bi_intb, q_int, q_in, q_siz, q3, q4, bi_lent]); repeat ((first | refine Wn_mk ?_ | refine Wf_mk ?_); try simp only [WO_seq, WO_set, WO_ret, WO_ife, WO_exp, WO_forr, WO_nop, WO_retn, WO_par, WO_if, WO_nx, WO_rt, WO_tst, W_bind, W_ok, W_some, W_none, W_lift, W_if, W_quiet, vs_var, vR_var, vs_non, vR_non, vs_bl, vR_bl, vs_int, vR_int, vs_str, vR_str, vs_glb, vR_glb, vs_scs, vR_scs, vs_tup, vR_tup, vs_lst, vR_lst, vs_dic, vR_dic, vs_bin, vR_bin, vs_neg, vR_neg, vs_not, vR_not, vs_and, vR_and, vs_or, vR_or, vs_cmp, vR_cmp, vs_cm2, vR_cm2, vs_isn, vR_isn, vs_nsn, vR_nsn, vs_ite, vs_idx, vR_idx, vs_tix, vR_tix, vs_sli, vR_sli, vs_rev, vR_rev, vs_call, vs_bi, vR_bi, vs_isi, vR_isi, vs_met, vR_met, vs_comp, vR_comp, vs_dcom, vR_dcom, vs_comp2, vR_comp2, vs_rng, vR_rng, vs_rn3, vR_rn3, vs_enu, vR_enu, vs_zip, vR_zip, vs_vals, vR_vals, vs_its, vR_its, vs_lof, vR_lof, vs_act, vR_act, vs_isx, vR_isx, vs_plc, vR_plc, vs_srt, vR_srt, vs_rv2, vR_rv2, vs_tof, vR_tof, vs_gix, vR_gix, vs_nil, vs_tpv, vs_scv, vs_lam, vR_call, vR_ite, gv_0, gv_s, ix_l0, ix_l1, ix_l2, ix_l3, ix_l4, ix_l5, ix_l6, ix_l7, ix_t0, ix_t1, ix_t2, ix_t3, ix_t4, ix_t5, ix_t6, ix_t7, st_l0, st_l1, st_l2, st_l3, st_l4, tr_b, tr_i, cm_eq, cm_ne, cm_lt, cm_gt, cm_le, cm_ge, bn_add, bn_sub, bi_int, bi_lenl, bi_lent, al_nil, al_cons, fx_i, fx_b, fx_s, fx_n, fx_l, fx_t, fx_d, mu_i, mu_b, mu_s, mu_n, mu_t, mu_l, mu_d, co_i, co_b, co_s, co_n, co_t, co_l, co_d, se_0, se_s, ex_some, Option.map_some, Option.bind_some, Bool.false_eq_true, if_false, if_true, decide_eq_true_eq, Bool.and_false, Bool.false_and, Bool.and_true, Bool.true_and, Bool.or_false, Bool.false_or, Ev.fresh, ownV, bd_ok, lift_some, part_t, part_f, test_t, test_f, as_i, isNil, blank, slotsP, isTy, List.any_cons, List.any_nil, Bool.not_true, Bool.not_false, List.map_cons, List.map_nil, List.cons_append, List.nil_append, List.replicate_succ, List.replicate_zero, Nat.reduceSub, and_self, and_true, true_and, Int.reduceSub, Int.reduceAdd, Int.reduceNeg, Int.reduceMul, Int.reduceLT, Int.reduceLE, decide_true, decide_false, not_true_eq_false, not_false_eq_true, Prod.mk.injEq, bn_mod, bn_fdiv', bn_mull, bn_mulr, bi_max3, bi_max2, bi_min2, bi_abs, bi_bool, cm_mem, cm_nmem, Int.reducePow, WO_app, own_eq, fl_0, fl_s, setD_eq, fz, retE, ev_var, ev_non, ev_bl, ev_int, ev_str, ev_glb, ev_tup, ev_lst, ev_dic, ev_bin, ev_neg, ev_not, ev_and, ev_or, ev_cmp, ev_cm2, ev_isn, ev_nsn, ev_ite, ev_idx, ev_tix, ev_scs, ev_sli, ev_rev, ev_call, ev_isi, ev_met, ev_gix, ev_lof, ev_tof, ev_rv2, ev_act, ev_isx, ev_plc, ev_rng, ev_rn3, ev_enu, ev_zip, ev_vals, ev_its, ev_comp, ev_comp2, ev_dcom, ev_srt, asg_nm, asg_tt, asg_tl, asgs_nil, asgs_cons, ev_bi, fx_nil, WO_stp, fr_1, fr_2, fr_3, fr_4, fr_5, fr_6, fr_7, fr_8, fr_9, fr_10, fr_11, fr_12, fr_13, fr_14, fr_15, fr_16, lfz_app, List.append_nil, WO_aug, WO_trya, WO_tryl, augD, bd_exc, gd_0, gd_s, cb_eq, cb_ne, WO_fnil, WO_fcons, *, gb0, gb1, gb2, gb3, gb4, gb5, gb6, gb7, tup_len, bi_intb, q_int, q_in, q_siz, q3, q4, bi_lent])))
theorem q5 {n : Nat} {t : Tp} {ls : List Int} (h : IsL ls) (h0 : 1 ≤ (ls.length : Int)) (h1 : (ls.length : Int) ≤ 24) : (G (n + 4)).cl 5 [.d (.tuple (ls.map .int))] t = .ok (.bool true, false) t := by
  refine eqW (cl_do (F := ⟨1, 2, b_is_line⟩) rfl rfl ?_)
  unfold b_is_line
  walk_at "g1"
  refine ⟨_, wk_t (by have : line = 16777216 := rfl; rw [List.length_map]; omega), ?_⟩
  rw [mapT_map (h := fun x => .bool (okP x)) (fun x m => ?_)]
  · have e := all_map (xs := ls.map PyData.int) (h := okP)
    rw [okP_all h] at e
    walk_at "g1"
  · obtain ⟨i, mi, rfl⟩ := List.mem_map.mp m
    refine eqW ?_
    unfold compF
    walk_at "g1"
    rfl

local macro_rules | `(tactic| walk_at "g2") => `(tactic| ((try simp only [WO_seq, WO_set, WO_ret, WO_ife, WO_exp, WO_forr, WO_nop, WO_retn, WO_par, WO_if, WO_nx, WO_rt, WO_tst, W_bind, W_ok, W_some, W_none, W_lift, W_if, W_quiet, vs_var, vR_var, vs_non, vR_non, vs_bl, vR_bl, vs_int, vR_int, vs_str, vR_str, vs_glb, vR_glb, vs_scs, vR_scs, vs_tup, vR_tup, vs_lst, vR_lst, vs_dic, vR_dic, vs_bin, vR_bin, vs_neg, vR_neg, vs_not, vR_not, vs_and, vR_and, vs_or, vR_or, vs_cmp, vR_cmp, vs_cm2, vR_cm2, vs_isn, vR_isn, vs_nsn, vR_nsn, vs_ite, vs_idx, vR_idx, vs_tix, vR_tix, vs_sli, vR_sli, vs_rev, vR_rev, vs_call, vs_bi, vR_bi, vs_isi, vR_isi, vs_met, vR_met, vs_comp, vR_comp, vs_dcom, vR_dcom, vs_comp2, vR_comp2, vs_rng, vR_rng, vs_rn3, vR_rn3, vs_enu, vR_enu, vs_zip, vR_zip, vs_vals, vR_vals, vs_its, vR_its, vs_lof, vR_lof, vs_act, vR_act, vs_isx, vR_isx, vs_plc, vR_plc, vs_srt, vR_srt, vs_rv2, vR_rv2, vs_tof, vR_tof, vs_gix, vR_gix, vs_nil, vs_tpv, vs_scv, vs_lam, vR_call, vR_ite, gv_0, gv_s, ix_l0, ix_l1, ix_l2, ix_l3, ix_l4, ix_l5, ix_l6, ix_l7, ix_t0, ix_t1, ix_t2, ix_t3, ix_t4, ix_t5, ix_t6, ix_t7, st_l0, st_l1, st_l2, st_l3, st_l4, tr_b, tr_i, cm_eq, cm_ne, cm_lt, cm_gt, cm_le, cm_ge, bn_add, bn_sub, bi_int, bi_lenl, bi_lent, al_nil, al_cons, fx_i, fx_b, fx_s, fx_n, fx_l, fx_t, fx_d, mu_i, mu_b, mu_s, mu_n, mu_t, mu_l, mu_d, co_i, co_b, co_s, co_n, co_t, co_l, co_d, se_0, se_s, ex_some, Option.map_some, Option.bind_some, Bool.false_eq_true, if_false, if_true, decide_eq_true_eq, Bool.and_false, Bool.false_and, Bool.and_true, Bool.true_and, Bool.or_false, Bool.false_or, Ev.fresh, ownV, bd_ok, lift_some, part_t, part_f, test_t, test_f, as_i, isNil, blank, slotsP, isTy, List.any_cons, List.any_nil, Bool.not_true, Bool.not_false, List.map_cons, List.map_nil, List.cons_append, List.nil_append, List.replicate_succ, List.replicate_zero, Nat.reduceSub, and_self, and_true, true_and, Int.reduceSub, Int.reduceAdd, Int.reduceNeg, Int.reduceMul, Int.reduceLT, Int.reduceLE, decide_true, decide_false, not_true_eq_false, not_false_eq_true, Prod.mk.injEq, bn_mod, bn_fdiv', bn_mull, bn_mulr, bi_max3, bi_max2, bi_min2, bi_abs, bi_bool, cm_mem, cm_nmem, Int.reducePow, WO_app, own_eq, fl_0, fl_s, setD_eq, fz, retE, ev_var, ev_non, ev_bl, ev_int, ev_str, ev_glb, ev_tup, ev_lst, ev_dic, ev_bin, ev_neg, ev_not, ev_and, ev_or, ev_cmp, ev_cm2, ev_isn, ev_nsn, ev_ite, ev_idx, ev_tix, ev_scs, ev_sli, ev_rev, ev_call, ev_isi, ev_met, ev_gix, ev_lof, ev_tof, ev_rv2, ev_act, ev_isx, ev_plc, ev_rng, ev_rn3, ev_enu, ev_zip, ev_vals, ev_its, ev_comp, ev_comp2, ev_dcom, ev_srt, asg_nm, asg_tt, asg_tl, asgs_nil, asgs_cons, ev_bi, fx_nil, WO_stp, fr_1, fr_2, fr_3, fr_4, fr_5, fr_6, fr_7, fr_8, fr_9, fr_10, fr_11, fr_12, fr_13, fr_14, fr_15, fr_16, lfz_app, List.append_nil, WO_aug, WO_trya, WO_tryl, augD, bd_exc, gd_0, gd_s, cb_eq, cb_ne, WO_fnil, WO_fcons, *, gb0, gb1, gb2, gb3, gb4, gb5, gb6, gb7, tup_len, bi_intb, q_int, q_in, q_siz, q3, q4, q5, bi_lent, bi_lenl]); repeat ((first | refine Wn_mk ?_ | refine Wf_mk ?_); try simp only [WO_seq, WO_set, WO_ret, WO_ife, WO_exp, WO_forr, WO_nop, WO_retn, WO_par, WO_if, WO_nx, WO_rt, WO_tst, W_bind, W_ok, W_some, W_none, W_lift, W_if, W_quiet, vs_var, vR_var, vs_non, vR_non, vs_bl, vR_bl, vs_int, vR_int, vs_str, vR_str, vs_glb, vR_glb, vs_scs, vR_scs, vs_tup, vR_tup, vs_lst, vR_lst, vs_dic, vR_dic, vs_bin, vR_bin, vs_neg, vR_neg, vs_not, vR_not, vs_and, vR_and, vs_or, vR_or, vs_cmp, vR_cmp, vs_cm2, vR_cm2, vs_isn, vR_isn, vs_nsn, vR_nsn, vs_ite, vs_idx, vR_idx, vs_tix, vR_tix, vs_sli, vR_sli, vs_rev, vR_rev, vs_call, vs_bi, vR_bi, vs_isi, vR_isi, vs_met, vR_met, vs_comp, vR_comp, vs_dcom, vR_dcom, vs_comp2, vR_comp2, vs_rng, vR_rng, vs_rn3, vR_rn3, vs_enu, vR_enu, vs_zip, vR_zip, vs_vals, vR_vals, vs_its, vR_its, vs_lof, vR_lof, vs_act, vR_act, vs_isx, vR_isx, vs_plc, vR_plc, vs_srt, vR_srt, vs_rv2, vR_rv2, vs_tof, vR_tof, vs_gix, vR_gix, vs_nil, vs_tpv, vs_scv, vs_lam, vR_call, vR_ite, gv_0, gv_s, ix_l0, ix_l1, ix_l2, ix_l3, ix_l4, ix_l5, ix_l6, ix_l7, ix_t0, ix_t1, ix_t2, ix_t3, ix_t4, ix_t5, ix_t6, ix_t7, st_l0, st_l1, st_l2, st_l3, st_l4, tr_b, tr_i, cm_eq, cm_ne, cm_lt, cm_gt, cm_le, cm_ge, bn_add, bn_sub, bi_int, bi_lenl, bi_lent, al_nil, al_cons, fx_i, fx_b, fx_s, fx_n, fx_l, fx_t, fx_d, mu_i, mu_b, mu_s, mu_n, mu_t, mu_l, mu_d, co_i, co_b, co_s, co_n, co_t, co_l, co_d, se_0, se_s, ex_some, Option.map_some, Option.bind_some, Bool.false_eq_true, if_false, if_true, decide_eq_true_eq, Bool.and_false, Bool.false_and, Bool.and_true, Bool.true_and, Bool.or_false, Bool.false_or, Ev.fresh, ownV, bd_ok, lift_some, part_t, part_f, test_t, test_f, as_i, isNil, blank, slotsP, isTy, List.any_cons, List.any_nil, Bool.not_true, Bool.not_false, List.map_cons, List.map_nil, List.cons_append, List.nil_append, List.replicate_succ, List.replicate_zero, Nat.reduceSub, and_self, and_true, true_and, Int.reduceSub, Int.reduceAdd, Int.reduceNeg, Int.reduceMul, Int.reduceLT, Int.reduceLE, decide_true, decide_false, not_true_eq_false, not_false_eq_true, Prod.mk.injEq, bn_mod, bn_fdiv', bn_mull, bn_mulr, bi_max3, bi_max2, bi_min2, bi_abs, bi_bool, cm_mem, cm_nmem, Int.reducePow, WO_app, own_eq, fl_0, fl_s, setD_eq, fz, retE, ev_var, ev_non, ev_bl, ev_int, ev_str, ev_glb, ev_tup, ev_lst, ev_dic, ev_bin, ev_neg, ev_not, ev_and, ev_or, ev_cmp, ev_cm2, ev_isn, ev_nsn, ev_ite, ev_idx, ev_tix, ev_scs, ev_sli, ev_rev, ev_call, ev_isi, ev_met, ev_gix, ev_lof, ev_tof, ev_rv2, ev_act, ev_isx, ev_plc, ev_rng, ev_rn3, ev_enu, ev_zip, ev_vals, ev_its, ev_comp, ev_comp2, ev_dcom, ev_srt, asg_nm, asg_tt, asg_tl, asgs_nil, asgs_cons, ev_bi, fx_nil, WO_stp, fr_1, fr_2, fr_3, fr_4, fr_5, fr_6, fr_7, fr_8, fr_9, fr_10, fr_11, fr_12, fr_13, fr_14, fr_15, fr_16, lfz_app, List.append_nil, WO_aug, WO_trya, WO_tryl, augD, bd_exc, gd_0, gd_s, cb_eq, cb_ne, WO_fnil, WO_fcons, *, gb0, gb1, gb2, gb3, gb4, gb5, gb6, gb7, tup_len, bi_intb, q_int, q_in, q_siz, q3, q4, q5, bi_lent, bi_lenl])))
theorem q6 {n : Nat} {t : Tp} {ls : List Int} (h : IsL ls) (h0 : 1 ≤ (ls.length : Int)) (h1 : (ls.length : Int) ≤ 24) : (G (n + 5)).cl 6 [.d (.tuple (ls.map .int))] t = .ok (.none, false) t := by
  refine eqW (cl_do (F := ⟨1, 1, b_check_line⟩) rfl rfl ?_)
  unfold b_check_line
  walk_at "g2"

/-- a thing that is looked at as a finger -/
theorem fing {n : Nat} {t : Tp} {x : PyData} (h : ∃ i, x = .int i) : (G (n + 3)).cl 4 [.d x] t = .ok (.bool (okF x), false) t := by
  obtain ⟨i, rfl⟩ := h
  rw [q4]
  rfl
theorem q11 {n : Nat} {t : Tp} {ls fs : List Int} (h : IsF fs) (hl : (fs.length : Int) = ls.length) (h1 : (ls.length : Int) ≤ 24) : (G (n + 4)).cl 11 [.d (.tuple (ls.map .int)), .d (.tuple (fs.map .int))] t = .ok (.bool true, false) t := by
  refine eqW (cl_do (F := ⟨2, 3, b_are_fingers⟩) rfl rfl ?_)
  unfold b_are_fingers
  have i1 : (ls.length : Int) ≤ ls.length := Int.le_refl _
  walk_at "g2"
  refine ⟨_, wk_t (by have : line = 16777216 := rfl; rw [List.length_map]; omega), ?_⟩
  rw [mapT_map (h := fun x => .bool (okF x)) (fun x m => ?_)]
  · have e := all_map (xs := fs.map PyData.int) (h := okF)
    rw [okF_all h] at e
    walk_at "g2"
  · obtain ⟨i, mi, rfl⟩ := List.mem_map.mp m
    refine eqW ?_
    unfold compF
    walk_at "g2"
    rfl

local macro_rules | `(tactic| walk_at "g3") => `(tactic| ((try simp only [WO_seq, WO_set, WO_ret, WO_ife, WO_exp, WO_forr, WO_nop, WO_retn, WO_par, WO_if, WO_nx, WO_rt, WO_tst, W_bind, W_ok, W_some, W_none, W_lift, W_if, W_quiet, vs_var, vR_var, vs_non, vR_non, vs_bl, vR_bl, vs_int, vR_int, vs_str, vR_str, vs_glb, vR_glb, vs_scs, vR_scs, vs_tup, vR_tup, vs_lst, vR_lst, vs_dic, vR_dic, vs_bin, vR_bin, vs_neg, vR_neg, vs_not, vR_not, vs_and, vR_and, vs_or, vR_or, vs_cmp, vR_cmp, vs_cm2, vR_cm2, vs_isn, vR_isn, vs_nsn, vR_nsn, vs_ite, vs_idx, vR_idx, vs_tix, vR_tix, vs_sli, vR_sli, vs_rev, vR_rev, vs_call, vs_bi, vR_bi, vs_isi, vR_isi, vs_met, vR_met, vs_comp, vR_comp, vs_dcom, vR_dcom, vs_comp2, vR_comp2, vs_rng, vR_rng, vs_rn3, vR_rn3, vs_enu, vR_enu, vs_zip, vR_zip, vs_vals, vR_vals, vs_its, vR_its, vs_lof, vR_lof, vs_act, vR_act, vs_isx, vR_isx, vs_plc, vR_plc, vs_srt, vR_srt, vs_rv2, vR_rv2, vs_tof, vR_tof, vs_gix, vR_gix, vs_nil, vs_tpv, vs_scv, vs_lam, vR_call, vR_ite, gv_0, gv_s, ix_l0, ix_l1, ix_l2, ix_l3, ix_l4, ix_l5, ix_l6, ix_l7, ix_t0, ix_t1, ix_t2, ix_t3, ix_t4, ix_t5, ix_t6, ix_t7, st_l0, st_l1, st_l2, st_l3, st_l4, tr_b, tr_i, cm_eq, cm_ne, cm_lt, cm_gt, cm_le, cm_ge, bn_add, bn_sub, bi_int, bi_lenl, bi_lent, al_nil, al_cons, fx_i, fx_b, fx_s, fx_n, fx_l, fx_t, fx_d, mu_i, mu_b, mu_s, mu_n, mu_t, mu_l, mu_d, co_i, co_b, co_s, co_n, co_t, co_l, co_d, se_0, se_s, ex_some, Option.map_some, Option.bind_some, Bool.false_eq_true, if_false, if_true, decide_eq_true_eq, Bool.and_false, Bool.false_and, Bool.and_true, Bool.true_and, Bool.or_false, Bool.false_or, Ev.fresh, ownV, bd_ok, lift_some, part_t, part_f, test_t, test_f, as_i, isNil, blank, slotsP, isTy, List.any_cons, List.any_nil, Bool.not_true, Bool.not_false, List.map_cons, List.map_nil, List.cons_append, List.nil_append, List.replicate_succ, List.replicate_zero, Nat.reduceSub, and_self, and_true, true_and, Int.reduceSub, Int.reduceAdd, Int.reduceNeg, Int.reduceMul, Int.reduceLT, Int.reduceLE, decide_true, decide_false, not_true_eq_false, not_false_eq_true, Prod.mk.injEq, bn_mod, bn_fdiv', bn_mull, bn_mulr, bi_max3, bi_max2, bi_min2, bi_abs, bi_bool, cm_mem, cm_nmem, Int.reducePow, WO_app, own_eq, fl_0, fl_s, setD_eq, fz, retE, ev_var, ev_non, ev_bl, ev_int, ev_str, ev_glb, ev_tup, ev_lst, ev_dic, ev_bin, ev_neg, ev_not, ev_and, ev_or, ev_cmp, ev_cm2, ev_isn, ev_nsn, ev_ite, ev_idx, ev_tix, ev_scs, ev_sli, ev_rev, ev_call, ev_isi, ev_met, ev_gix, ev_lof, ev_tof, ev_rv2, ev_act, ev_isx, ev_plc, ev_rng, ev_rn3, ev_enu, ev_zip, ev_vals, ev_its, ev_comp, ev_comp2, ev_dcom, ev_srt, asg_nm, asg_tt, asg_tl, asgs_nil, asgs_cons, ev_bi, fx_nil, WO_stp, fr_1, fr_2, fr_3, fr_4, fr_5, fr_6, fr_7, fr_8, fr_9, fr_10, fr_11, fr_12, fr_13, fr_14, fr_15, fr_16, lfz_app, List.append_nil, WO_aug, WO_trya, WO_tryl, augD, bd_exc, gd_0, gd_s, cb_eq, cb_ne, WO_fnil, WO_fcons, *, gb0, gb1, gb2, gb3, gb4, gb5, gb6, gb7, tup_len, ixm, sl_take, sl_drop, is_ii, ne_eq, bi_tupl, bi_lstt, bi_intb, q_int, q_in, q_siz, q3, q4, q5, q6, q7, q8, q9, q10, q11, q12, q19, q20, q21, q22, bi_lent, bi_lenl]); repeat ((first | refine Wn_mk ?_ | refine Wf_mk ?_); try simp only [WO_seq, WO_set, WO_ret, WO_ife, WO_exp, WO_forr, WO_nop, WO_retn, WO_par, WO_if, WO_nx, WO_rt, WO_tst, W_bind, W_ok, W_some, W_none, W_lift, W_if, W_quiet, vs_var, vR_var, vs_non, vR_non, vs_bl, vR_bl, vs_int, vR_int, vs_str, vR_str, vs_glb, vR_glb, vs_scs, vR_scs, vs_tup, vR_tup, vs_lst, vR_lst, vs_dic, vR_dic, vs_bin, vR_bin, vs_neg, vR_neg, vs_not, vR_not, vs_and, vR_and, vs_or, vR_or, vs_cmp, vR_cmp, vs_cm2, vR_cm2, vs_isn, vR_isn, vs_nsn, vR_nsn, vs_ite, vs_idx, vR_idx, vs_tix, vR_tix, vs_sli, vR_sli, vs_rev, vR_rev, vs_call, vs_bi, vR_bi, vs_isi, vR_isi, vs_met, vR_met, vs_comp, vR_comp, vs_dcom, vR_dcom, vs_comp2, vR_comp2, vs_rng, vR_rng, vs_rn3, vR_rn3, vs_enu, vR_enu, vs_zip, vR_zip, vs_vals, vR_vals, vs_its, vR_its, vs_lof, vR_lof, vs_act, vR_act, vs_isx, vR_isx, vs_plc, vR_plc, vs_srt, vR_srt, vs_rv2, vR_rv2, vs_tof, vR_tof, vs_gix, vR_gix, vs_nil, vs_tpv, vs_scv, vs_lam, vR_call, vR_ite, gv_0, gv_s, ix_l0, ix_l1, ix_l2, ix_l3, ix_l4, ix_l5, ix_l6, ix_l7, ix_t0, ix_t1, ix_t2, ix_t3, ix_t4, ix_t5, ix_t6, ix_t7, st_l0, st_l1, st_l2, st_l3, st_l4, tr_b, tr_i, cm_eq, cm_ne, cm_lt, cm_gt, cm_le, cm_ge, bn_add, bn_sub, bi_int, bi_lenl, bi_lent, al_nil, al_cons, fx_i, fx_b, fx_s, fx_n, fx_l, fx_t, fx_d, mu_i, mu_b, mu_s, mu_n, mu_t, mu_l, mu_d, co_i, co_b, co_s, co_n, co_t, co_l, co_d, se_0, se_s, ex_some, Option.map_some, Option.bind_some, Bool.false_eq_true, if_false, if_true, decide_eq_true_eq, Bool.and_false, Bool.false_and, Bool.and_true, Bool.true_and, Bool.or_false, Bool.false_or, Ev.fresh, ownV, bd_ok, lift_some, part_t, part_f, test_t, test_f, as_i, isNil, blank, slotsP, isTy, List.any_cons, List.any_nil, Bool.not_true, Bool.not_false, List.map_cons, List.map_nil, List.cons_append, List.nil_append, List.replicate_succ, List.replicate_zero, Nat.reduceSub, and_self, and_true, true_and, Int.reduceSub, Int.reduceAdd, Int.reduceNeg, Int.reduceMul, Int.reduceLT, Int.reduceLE, decide_true, decide_false, not_true_eq_false, not_false_eq_true, Prod.mk.injEq, bn_mod, bn_fdiv', bn_mull, bn_mulr, bi_max3, bi_max2, bi_min2, bi_abs, bi_bool, cm_mem, cm_nmem, Int.reducePow, WO_app, own_eq, fl_0, fl_s, setD_eq, fz, retE, ev_var, ev_non, ev_bl, ev_int, ev_str, ev_glb, ev_tup, ev_lst, ev_dic, ev_bin, ev_neg, ev_not, ev_and, ev_or, ev_cmp, ev_cm2, ev_isn, ev_nsn, ev_ite, ev_idx, ev_tix, ev_scs, ev_sli, ev_rev, ev_call, ev_isi, ev_met, ev_gix, ev_lof, ev_tof, ev_rv2, ev_act, ev_isx, ev_plc, ev_rng, ev_rn3, ev_enu, ev_zip, ev_vals, ev_its, ev_comp, ev_comp2, ev_dcom, ev_srt, asg_nm, asg_tt, asg_tl, asgs_nil, asgs_cons, ev_bi, fx_nil, WO_stp, fr_1, fr_2, fr_3, fr_4, fr_5, fr_6, fr_7, fr_8, fr_9, fr_10, fr_11, fr_12, fr_13, fr_14, fr_15, fr_16, lfz_app, List.append_nil, WO_aug, WO_trya, WO_tryl, augD, bd_exc, gd_0, gd_s, cb_eq, cb_ne, WO_fnil, WO_fcons, *, gb0, gb1, gb2, gb3, gb4, gb5, gb6, gb7, tup_len, ixm, sl_take, sl_drop, is_ii, ne_eq, bi_tupl, bi_lstt, bi_intb, q_int, q_in, q_siz, q3, q4, q5, q6, q7, q8, q9, q10, q11, q12, q19, q20, q21, q22, bi_lent, bi_lenl])))
theorem q13 {n : Nat} {t : Tp} {ls fs : List Int} (h : IsL ls) (hf : IsF fs) (hl : (fs.length : Int) = ls.length) (hl2 : ls.length = fs.length) (h0 : 1 ≤ (ls.length : Int)) (h1 : (ls.length : Int) ≤ 24) : (G (n + 6)).cl 13 [.d (.tuple (ls.map .int)), .d (.tuple (fs.map .int))] t = .ok (.int (tot ls fs), false) t := by
  refine eqW (cl_do (F := ⟨2, 2, b_fingering_cost⟩) rfl rfl ?_)
  unfold b_fingering_cost
  have h2 : (ls.length : Int) ≤ 1000 := by omega
  walk_at "g3"

local macro_rules | `(tactic| walk_at "g4") => `(tactic| ((try simp only [WO_seq, WO_set, WO_ret, WO_ife, WO_exp, WO_forr, WO_nop, WO_retn, WO_par, WO_if, WO_nx, WO_rt, WO_tst, W_bind, W_ok, W_some, W_none, W_lift, W_if, W_quiet, vs_var, vR_var, vs_non, vR_non, vs_bl, vR_bl, vs_int, vR_int, vs_str, vR_str, vs_glb, vR_glb, vs_scs, vR_scs, vs_tup, vR_tup, vs_lst, vR_lst, vs_dic, vR_dic, vs_bin, vR_bin, vs_neg, vR_neg, vs_not, vR_not, vs_and, vR_and, vs_or, vR_or, vs_cmp, vR_cmp, vs_cm2, vR_cm2, vs_isn, vR_isn, vs_nsn, vR_nsn, vs_ite, vs_idx, vR_idx, vs_tix, vR_tix, vs_sli, vR_sli, vs_rev, vR_rev, vs_call, vs_bi, vR_bi, vs_isi, vR_isi, vs_met, vR_met, vs_comp, vR_comp, vs_dcom, vR_dcom, vs_comp2, vR_comp2, vs_rng, vR_rng, vs_rn3, vR_rn3, vs_enu, vR_enu, vs_zip, vR_zip, vs_vals, vR_vals, vs_its, vR_its, vs_lof, vR_lof, vs_act, vR_act, vs_isx, vR_isx, vs_plc, vR_plc, vs_srt, vR_srt, vs_rv2, vR_rv2, vs_tof, vR_tof, vs_gix, vR_gix, vs_nil, vs_tpv, vs_scv, vs_lam, vR_call, vR_ite, gv_0, gv_s, ix_l0, ix_l1, ix_l2, ix_l3, ix_l4, ix_l5, ix_l6, ix_l7, ix_t0, ix_t1, ix_t2, ix_t3, ix_t4, ix_t5, ix_t6, ix_t7, st_l0, st_l1, st_l2, st_l3, st_l4, tr_b, tr_i, cm_eq, cm_ne, cm_lt, cm_gt, cm_le, cm_ge, bn_add, bn_sub, bi_int, bi_lenl, bi_lent, al_nil, al_cons, fx_i, fx_b, fx_s, fx_n, fx_l, fx_t, fx_d, mu_i, mu_b, mu_s, mu_n, mu_t, mu_l, mu_d, co_i, co_b, co_s, co_n, co_t, co_l, co_d, se_0, se_s, ex_some, Option.map_some, Option.bind_some, Bool.false_eq_true, if_false, if_true, decide_eq_true_eq, Bool.and_false, Bool.false_and, Bool.and_true, Bool.true_and, Bool.or_false, Bool.false_or, Ev.fresh, ownV, bd_ok, lift_some, part_t, part_f, test_t, test_f, as_i, isNil, blank, slotsP, isTy, List.any_cons, List.any_nil, Bool.not_true, Bool.not_false, List.map_cons, List.map_nil, List.cons_append, List.nil_append, List.replicate_succ, List.replicate_zero, Nat.reduceSub, and_self, and_true, true_and, Int.reduceSub, Int.reduceAdd, Int.reduceNeg, Int.reduceMul, Int.reduceLT, Int.reduceLE, decide_true, decide_false, not_true_eq_false, not_false_eq_true, Prod.mk.injEq, bn_mod, bn_fdiv', bn_mull, bn_mulr, bi_max3, bi_max2, bi_min2, bi_abs, bi_bool, cm_mem, cm_nmem, Int.reducePow, WO_app, own_eq, fl_0, fl_s, setD_eq, fz, retE, ev_var, ev_non, ev_bl, ev_int, ev_str, ev_glb, ev_tup, ev_lst, ev_dic, ev_bin, ev_neg, ev_not, ev_and, ev_or, ev_cmp, ev_cm2, ev_isn, ev_nsn, ev_ite, ev_idx, ev_tix, ev_scs, ev_sli, ev_rev, ev_call, ev_isi, ev_met, ev_gix, ev_lof, ev_tof, ev_rv2, ev_act, ev_isx, ev_plc, ev_rng, ev_rn3, ev_enu, ev_zip, ev_vals, ev_its, ev_comp, ev_comp2, ev_dcom, ev_srt, asg_nm, asg_tt, asg_tl, asgs_nil, asgs_cons, ev_bi, fx_nil, WO_stp, fr_1, fr_2, fr_3, fr_4, fr_5, fr_6, fr_7, fr_8, fr_9, fr_10, fr_11, fr_12, fr_13, fr_14, fr_15, fr_16, lfz_app, List.append_nil, WO_aug, WO_trya, WO_tryl, augD, bd_exc, gd_0, gd_s, cb_eq, cb_ne, WO_fnil, WO_fcons, *, gb0, gb1, gb2, gb3, gb4, gb5, gb6, gb7, q13, tup_len, ixm, sl_take, sl_drop, is_ii, ne_eq, bi_tupl, bi_lstt, bi_intb, q_int, q_in, q_siz, q3, q4, q5, q6, q7, q8, q9, q10, q11, q12, q19, q20, q21, q22, bi_lent, bi_lenl]); repeat ((first | refine Wn_mk ?_ | refine Wf_mk ?_); try simp only [WO_seq, WO_set, WO_ret, WO_ife, WO_exp, WO_forr, WO_nop, WO_retn, WO_par, WO_if, WO_nx, WO_rt, WO_tst, W_bind, W_ok, W_some, W_none, W_lift, W_if, W_quiet, vs_var, vR_var, vs_non, vR_non, vs_bl, vR_bl, vs_int, vR_int, vs_str, vR_str, vs_glb, vR_glb, vs_scs, vR_scs, vs_tup, vR_tup, vs_lst, vR_lst, vs_dic, vR_dic, vs_bin, vR_bin, vs_neg, vR_neg, vs_not, vR_not, vs_and, vR_and, vs_or, vR_or, vs_cmp, vR_cmp, vs_cm2, vR_cm2, vs_isn, vR_isn, vs_nsn, vR_nsn, vs_ite, vs_idx, vR_idx, vs_tix, vR_tix, vs_sli, vR_sli, vs_rev, vR_rev, vs_call, vs_bi, vR_bi, vs_isi, vR_isi, vs_met, vR_met, vs_comp, vR_comp, vs_dcom, vR_dcom, vs_comp2, vR_comp2, vs_rng, vR_rng, vs_rn3, vR_rn3, vs_enu, vR_enu, vs_zip, vR_zip, vs_vals, vR_vals, vs_its, vR_its, vs_lof, vR_lof, vs_act, vR_act, vs_isx, vR_isx, vs_plc, vR_plc, vs_srt, vR_srt, vs_rv2, vR_rv2, vs_tof, vR_tof, vs_gix, vR_gix, vs_nil, vs_tpv, vs_scv, vs_lam, vR_call, vR_ite, gv_0, gv_s, ix_l0, ix_l1, ix_l2, ix_l3, ix_l4, ix_l5, ix_l6, ix_l7, ix_t0, ix_t1, ix_t2, ix_t3, ix_t4, ix_t5, ix_t6, ix_t7, st_l0, st_l1, st_l2, st_l3, st_l4, tr_b, tr_i, cm_eq, cm_ne, cm_lt, cm_gt, cm_le, cm_ge, bn_add, bn_sub, bi_int, bi_lenl, bi_lent, al_nil, al_cons, fx_i, fx_b, fx_s, fx_n, fx_l, fx_t, fx_d, mu_i, mu_b, mu_s, mu_n, mu_t, mu_l, mu_d, co_i, co_b, co_s, co_n, co_t, co_l, co_d, se_0, se_s, ex_some, Option.map_some, Option.bind_some, Bool.false_eq_true, if_false, if_true, decide_eq_true_eq, Bool.and_false, Bool.false_and, Bool.and_true, Bool.true_and, Bool.or_false, Bool.false_or, Ev.fresh, ownV, bd_ok, lift_some, part_t, part_f, test_t, test_f, as_i, isNil, blank, slotsP, isTy, List.any_cons, List.any_nil, Bool.not_true, Bool.not_false, List.map_cons, List.map_nil, List.cons_append, List.nil_append, List.replicate_succ, List.replicate_zero, Nat.reduceSub, and_self, and_true, true_and, Int.reduceSub, Int.reduceAdd, Int.reduceNeg, Int.reduceMul, Int.reduceLT, Int.reduceLE, decide_true, decide_false, not_true_eq_false, not_false_eq_true, Prod.mk.injEq, bn_mod, bn_fdiv', bn_mull, bn_mulr, bi_max3, bi_max2, bi_min2, bi_abs, bi_bool, cm_mem, cm_nmem, Int.reducePow, WO_app, own_eq, fl_0, fl_s, setD_eq, fz, retE, ev_var, ev_non, ev_bl, ev_int, ev_str, ev_glb, ev_tup, ev_lst, ev_dic, ev_bin, ev_neg, ev_not, ev_and, ev_or, ev_cmp, ev_cm2, ev_isn, ev_nsn, ev_ite, ev_idx, ev_tix, ev_scs, ev_sli, ev_rev, ev_call, ev_isi, ev_met, ev_gix, ev_lof, ev_tof, ev_rv2, ev_act, ev_isx, ev_plc, ev_rng, ev_rn3, ev_enu, ev_zip, ev_vals, ev_its, ev_comp, ev_comp2, ev_dcom, ev_srt, asg_nm, asg_tt, asg_tl, asgs_nil, asgs_cons, ev_bi, fx_nil, WO_stp, fr_1, fr_2, fr_3, fr_4, fr_5, fr_6, fr_7, fr_8, fr_9, fr_10, fr_11, fr_12, fr_13, fr_14, fr_15, fr_16, lfz_app, List.append_nil, WO_aug, WO_trya, WO_tryl, augD, bd_exc, gd_0, gd_s, cb_eq, cb_ne, WO_fnil, WO_fcons, *, gb0, gb1, gb2, gb3, gb4, gb5, gb6, gb7, q13, tup_len, ixm, sl_take, sl_drop, is_ii, ne_eq, bi_tupl, bi_lstt, bi_intb, q_int, q_in, q_siz, q3, q4, q5, q6, q7, q8, q9, q10, q11, q12, q19, q20, q21, q22, bi_lent, bi_lenl])))
theorem siz_no {n : Nat} {t : Tp} {x : PyData} {a b : Int} (h : isTy x .tuple = false) : (G (n + 1)).cl 2 [.d x, .d (.int a), .d (.int b)] t = .ok (.bool false, false) t := by
  refine eqW (cl_do (F := ⟨3, 3, b_is_sized⟩) rfl rfl ?_)
  unfold b_is_sized
  cases x <;> first | exact absurd (show true = false from h) (by decide) | walk_at "g2"
theorem fing2 {n : Nat} {t : Tp} {x : PyData} (h : (∃ i, x = .int i) ∨ ∃ b, x = .bool b) : (G (n + 3)).cl 4 [.d x] t = .ok (.bool (okF x), false) t := by
  rcases h with ⟨i, rfl⟩ | ⟨b, rfl⟩
  · rw [q4]; rfl
  · exact cl_tabF (n0 := 3) hc (by omega) (by cases b <;> decide +kernel) t
/-- what is no fingering -/
def NoF (ls : List Int) (x : PyData) : Prop := isTy x .tuple = false ∨ ∃ xs, x = .tuple xs ∧ ((xs.length : Int) ≠ ls.length ∨ ((∀ y ∈ xs, (∃ i, y = .int i) ∨ ∃ b, y = .bool b) ∧ ∃ y ∈ xs, okF y = false))
theorem are_no {n : Nat} {t : Tp} {ls : List Int} {x : PyData} (h : NoF ls x) (h1 : (ls.length : Int) ≤ 24) : ∃ m, (G (n + 4)).cl 11 [.d (.tuple (ls.map .int)), .d x] t = .ok (.bool false, m) t := by
  refine eqm (cl_do (F := ⟨2, 3, b_are_fingers⟩) rfl rfl ?_)
  unfold b_are_fingers
  rcases h with h | ⟨xs, rfl, h⟩
  · walk_at "g2"
    simp only [siz_no h]
    walk_at "g2"
  · rcases h with h | ⟨h2, y, my, hy⟩
    · have e : ¬ ((ls.length : Int) ≤ xs.length ∧ (xs.length : Int) ≤ ls.length) := by omega
      walk_at "g2"
    · by_cases e : (ls.length : Int) ≤ xs.length ∧ (xs.length : Int) ≤ ls.length
      · walk_at "g2"
        refine ⟨_, wk_t (by have : line = 16777216 := rfl; omega), ?_⟩
        rw [mapT_map (h := fun x => .bool (okF x)) (fun x m => ?_)]
        · have e := all_map (xs := xs) (h := okF)
          have e2 : xs.all okF = false := by
            rw [List.all_eq_false]
            exact ⟨y, my, by rw [hy]; exact Bool.false_ne_true⟩
          rw [e2] at e
          walk_at "g2"
        · have e3 := fing2 (n := n) (t := t) (h2 x m)
          refine eqW ?_
          unfold compF
          walk_at "g2"
      · walk_at "g2"
theorem cost_no {n : Nat} {t : Tp} {ls : List Int} {x : PyData} (hl : IsL ls) (h : NoF ls x) (h0 : 1 ≤ (ls.length : Int)) (h1 : (ls.length : Int) ≤ 24) : (G (n + 6)).cl 13 [.d (.tuple (ls.map .int)), .d x] t = .exc 2 [] t := by
  obtain ⟨m, e⟩ := are_no (n := n + 1) (t := t) h h1
  have e2 := q6 (n := n) (t := t) hl h0 h1
  refine cx_do (F := ⟨2, 2, b_fingering_cost⟩) rfl rfl ⟨⟨[some (.d (.tuple (ls.map .int))), some (.d x)], [false, false], t⟩, ?_, rfl⟩
  show evS (cal L.gl L.fns L.wf (n + 5)) b_fingering_cost ⟨[some (.d (.tuple (ls.map .int))), some (.d x)], [false, false], t⟩ = _
  unfold b_fingering_cost
  simp only [evS_seq, evS_exp, evS_ife, evS_rai0, ev_call, ev_not, vs_var, vs_nil, ev_var, gv_0, gv_s, bd_ok, out_ok, e, e2, tr_b, Option.map_some, lift_some, Bool.not_false, if_true]
theorem no_put {ls fs : List Int} {k : Int} {y : PyData} (hl : ls.length = fs.length) (h0 : 0 ≤ k) (h1 : k < ls.length) (hy : (∃ i, y = .int i) ∨ ∃ b, y = .bool b) (ho : okF y = false) : NoF ls (.tuple (((fs.take k.toNat).map .int ++ [y]) ++ (fs.drop (k + 1).toNat).map .int)) := by
  refine .inr ⟨_, rfl, .inr ⟨fun z m => ?_, y, ?_, ho⟩⟩
  · rcases List.mem_append.mp m with m | m
    · rcases List.mem_append.mp m with m | m
      · obtain ⟨i, _, rfl⟩ := List.mem_map.mp m
        exact .inl ⟨i, rfl⟩
      · cases List.mem_singleton.mp m
        exact hy
    · obtain ⟨i, _, rfl⟩ := List.mem_map.mp m
      exact .inl ⟨i, rfl⟩
  · exact List.mem_append.mpr (.inl (List.mem_append.mpr (.inr List.mem_cons_self)))
end K76

set_option Elab.async false
set_option linter.all false
set_option maxRecDepth 100000
set_option maxHeartbeats 4000000
namespace K76
open PySem Ev
local macro_rules | `(tactic| walk_at "g4") => `(tactic| ((try simp only [WO_seq, WO_set, WO_ret, WO_ife, WO_exp, WO_forr, WO_nop, WO_retn, WO_par, WO_if, WO_nx, WO_rt, WO_tst, W_bind, W_ok, W_some, W_none, W_lift, W_if, W_quiet, vs_var, vR_var, vs_non, vR_non, vs_bl, vR_bl, vs_int, vR_int, vs_str, vR_str, vs_glb, vR_glb, vs_scs, vR_scs, vs_tup, vR_tup, vs_lst, vR_lst, vs_dic, vR_dic, vs_bin, vR_bin, vs_neg, vR_neg, vs_not, vR_not, vs_and, vR_and, vs_or, vR_or, vs_cmp, vR_cmp, vs_cm2, vR_cm2, vs_isn, vR_isn, vs_nsn, vR_nsn, vs_ite, vs_idx, vR_idx, vs_tix, vR_tix, vs_sli, vR_sli, vs_rev, vR_rev, vs_call, vs_bi, vR_bi, vs_isi, vR_isi, vs_met, vR_met, vs_comp, vR_comp, vs_dcom, vR_dcom, vs_comp2, vR_comp2, vs_rng, vR_rng, vs_rn3, vR_rn3, vs_enu, vR_enu, vs_zip, vR_zip, vs_vals, vR_vals, vs_its, vR_its, vs_lof, vR_lof, vs_act, vR_act, vs_isx, vR_isx, vs_plc, vR_plc, vs_srt, vR_srt, vs_rv2, vR_rv2, vs_tof, vR_tof, vs_gix, vR_gix, vs_nil, vs_tpv, vs_scv, vs_lam, vR_call, vR_ite, gv_0, gv_s, ix_l0, ix_l1, ix_l2, ix_l3, ix_l4, ix_l5, ix_l6, ix_l7, ix_t0, ix_t1, ix_t2, ix_t3, ix_t4, ix_t5, ix_t6, ix_t7, st_l0, st_l1, st_l2, st_l3, st_l4, tr_b, tr_i, cm_eq, cm_ne, cm_lt, cm_gt, cm_le, cm_ge, bn_add, bn_sub, bi_int, bi_lenl, bi_lent, al_nil, al_cons, fx_i, fx_b, fx_s, fx_n, fx_l, fx_t, fx_d, mu_i, mu_b, mu_s, mu_n, mu_t, mu_l, mu_d, co_i, co_b, co_s, co_n, co_t, co_l, co_d, se_0, se_s, ex_some, Option.map_some, Option.bind_some, Bool.false_eq_true, if_false, if_true, decide_eq_true_eq, Bool.and_false, Bool.false_and, Bool.and_true, Bool.true_and, Bool.or_false, Bool.false_or, Ev.fresh, ownV, bd_ok, lift_some, part_t, part_f, test_t, test_f, as_i, isNil, blank, slotsP, isTy, List.any_cons, List.any_nil, Bool.not_true, Bool.not_false, List.map_cons, List.map_nil, List.cons_append, List.nil_append, List.replicate_succ, List.replicate_zero, Nat.reduceSub, and_self, and_true, true_and, Int.reduceSub, Int.reduceAdd, Int.reduceNeg, Int.reduceMul, Int.reduceLT, Int.reduceLE, decide_true, decide_false, not_true_eq_false, not_false_eq_true, Prod.mk.injEq, bn_mod, bn_fdiv', bn_mull, bn_mulr, bi_max3, bi_max2, bi_min2, bi_abs, bi_bool, cm_mem, cm_nmem, Int.reducePow, WO_app, own_eq, fl_0, fl_s, setD_eq, fz, retE, ev_var, ev_non, ev_bl, ev_int, ev_str, ev_glb, ev_tup, ev_lst, ev_dic, ev_bin, ev_neg, ev_not, ev_and, ev_or, ev_cmp, ev_cm2, ev_isn, ev_nsn, ev_ite, ev_idx, ev_tix, ev_scs, ev_sli, ev_rev, ev_call, ev_isi, ev_met, ev_gix, ev_lof, ev_tof, ev_rv2, ev_act, ev_isx, ev_plc, ev_rng, ev_rn3, ev_enu, ev_zip, ev_vals, ev_its, ev_comp, ev_comp2, ev_dcom, ev_srt, asg_nm, asg_tt, asg_tl, asgs_nil, asgs_cons, ev_bi, fx_nil, WO_stp, fr_1, fr_2, fr_3, fr_4, fr_5, fr_6, fr_7, fr_8, fr_9, fr_10, fr_11, fr_12, fr_13, fr_14, fr_15, fr_16, lfz_app, List.append_nil, WO_aug, WO_trya, WO_tryl, augD, bd_exc, gd_0, gd_s, cb_eq, cb_ne, WO_fnil, WO_fcons, *, gb0, gb1, gb2, gb3, gb4, gb5, gb6, gb7, q13, tup_len, ixm, sl_take, sl_drop, is_ii, ne_eq, bi_tupl, bi_lstt, bi_intb, q_int, q_in, q_siz, q3, q4, q5, q6, q7, q8, q9, q10, q11, q12, q19, q20, q21, q22, bi_lent, bi_lenl]); repeat ((first | refine Wn_mk ?_ | refine Wf_mk ?_); try simp only [WO_seq, WO_set, WO_ret, WO_ife, WO_exp, WO_forr, WO_nop, WO_retn, WO_par, WO_if, WO_nx, WO_rt, WO_tst, W_bind, W_ok, W_some, W_none, W_lift, W_if, W_quiet, vs_var, vR_var, vs_non, vR_non, vs_bl, vR_bl, vs_int, vR_int, vs_str, vR_str, vs_glb, vR_glb, vs_scs, vR_scs, vs_tup, vR_tup, vs_lst, vR_lst, vs_dic, vR_dic, vs_bin, vR_bin, vs_neg, vR_neg, vs_not, vR_not, vs_and, vR_and, vs_or, vR_or, vs_cmp, vR_cmp, vs_cm2, vR_cm2, vs_isn, vR_isn, vs_nsn, vR_nsn, vs_ite, vs_idx, vR_idx, vs_tix, vR_tix, vs_sli, vR_sli, vs_rev, vR_rev, vs_call, vs_bi, vR_bi, vs_isi, vR_isi, vs_met, vR_met, vs_comp, vR_comp, vs_dcom, vR_dcom, vs_comp2, vR_comp2, vs_rng, vR_rng, vs_rn3, vR_rn3, vs_enu, vR_enu, vs_zip, vR_zip, vs_vals, vR_vals, vs_its, vR_its, vs_lof, vR_lof, vs_act, vR_act, vs_isx, vR_isx, vs_plc, vR_plc, vs_srt, vR_srt, vs_rv2, vR_rv2, vs_tof, vR_tof, vs_gix, vR_gix, vs_nil, vs_tpv, vs_scv, vs_lam, vR_call, vR_ite, gv_0, gv_s, ix_l0, ix_l1, ix_l2, ix_l3, ix_l4, ix_l5, ix_l6, ix_l7, ix_t0, ix_t1, ix_t2, ix_t3, ix_t4, ix_t5, ix_t6, ix_t7, st_l0, st_l1, st_l2, st_l3, st_l4, tr_b, tr_i, cm_eq, cm_ne, cm_lt, cm_gt, cm_le, cm_ge, bn_add, bn_sub, bi_int, bi_lenl, bi_lent, al_nil, al_cons, fx_i, fx_b, fx_s, fx_n, fx_l, fx_t, fx_d, mu_i, mu_b, mu_s, mu_n, mu_t, mu_l, mu_d, co_i, co_b, co_s, co_n, co_t, co_l, co_d, se_0, se_s, ex_some, Option.map_some, Option.bind_some, Bool.false_eq_true, if_false, if_true, decide_eq_true_eq, Bool.and_false, Bool.false_and, Bool.and_true, Bool.true_and, Bool.or_false, Bool.false_or, Ev.fresh, ownV, bd_ok, lift_some, part_t, part_f, test_t, test_f, as_i, isNil, blank, slotsP, isTy, List.any_cons, List.any_nil, Bool.not_true, Bool.not_false, List.map_cons, List.map_nil, List.cons_append, List.nil_append, List.replicate_succ, List.replicate_zero, Nat.reduceSub, and_self, and_true, true_and, Int.reduceSub, Int.reduceAdd, Int.reduceNeg, Int.reduceMul, Int.reduceLT, Int.reduceLE, decide_true, decide_false, not_true_eq_false, not_false_eq_true, Prod.mk.injEq, bn_mod, bn_fdiv', bn_mull, bn_mulr, bi_max3, bi_max2, bi_min2, bi_abs, bi_bool, cm_mem, cm_nmem, Int.reducePow, WO_app, own_eq, fl_0, fl_s, setD_eq, fz, retE, ev_var, ev_non, ev_bl, ev_int, ev_str, ev_glb, ev_tup, ev_lst, ev_dic, ev_bin, ev_neg, ev_not, ev_and, ev_or, ev_cmp, ev_cm2, ev_isn, ev_nsn, ev_ite, ev_idx, ev_tix, ev_scs, ev_sli, ev_rev, ev_call, ev_isi, ev_met, ev_gix, ev_lof, ev_tof, ev_rv2, ev_act, ev_isx, ev_plc, ev_rng, ev_rn3, ev_enu, ev_zip, ev_vals, ev_its, ev_comp, ev_comp2, ev_dcom, ev_srt, asg_nm, asg_tt, asg_tl, asgs_nil, asgs_cons, ev_bi, fx_nil, WO_stp, fr_1, fr_2, fr_3, fr_4, fr_5, fr_6, fr_7, fr_8, fr_9, fr_10, fr_11, fr_12, fr_13, fr_14, fr_15, fr_16, lfz_app, List.append_nil, WO_aug, WO_trya, WO_tryl, augD, bd_exc, gd_0, gd_s, cb_eq, cb_ne, WO_fnil, WO_fcons, *, gb0, gb1, gb2, gb3, gb4, gb5, gb6, gb7, q13, tup_len, ixm, sl_take, sl_drop, is_ii, ne_eq, bi_tupl, bi_lstt, bi_intb, q_int, q_in, q_siz, q3, q4, q5, q6, q7, q8, q9, q10, q11, q12, q19, q20, q21, q22, bi_lent, bi_lenl])))
theorem odds {ls fs : List Int} {sp : Int} (hl : ls.length = fs.length) (h0 : 1 ≤ (ls.length : Int)) (s1 : 0 ≤ sp) (s2 : sp < ls.length) : ∀ x ∈ [PyData.none, .tuple [], .list (fs.map .int), .tuple (fs.map .int ++ [.int 1]), .tuple ((fs.take sp.toNat).map .int ++ [.int 0] ++ (fs.drop (sp + 1).toNat).map .int), .str "1", .int 0, .tuple ((fs.take sp.toNat).map .int ++ [.int 6] ++ (fs.drop (sp + 1).toNat).map .int), .tuple ((fs.take sp.toNat).map .int ++ [.bool true] ++ (fs.drop (sp + 1).toNat).map .int)], NoF ls x := by
  intro x m
  simp only [List.mem_cons, List.not_mem_nil, or_false] at m
  rcases m with rfl | rfl | rfl | rfl | rfl | rfl | rfl | rfl | rfl
  · exact .inl rfl
  · exact .inr ⟨_, rfl, .inl (by rw [List.length_nil]; omega)⟩
  · exact .inl rfl
  · exact .inr ⟨_, rfl, .inl (by rw [List.length_append, List.length_map, List.length_cons, List.length_nil]; omega)⟩
  · exact no_put hl s1 s2 (.inl ⟨_, rfl⟩) rfl
  · exact .inl rfl
  · exact .inl rfl
  · exact no_put hl s1 s2 (.inl ⟨_, rfl⟩) rfl
  · exact no_put hl s1 s2 (.inr ⟨_, rfl⟩) rfl
theorem all_tt {ys : List PyData} (h : ∀ y ∈ ys, y = .bool true) : biD .all [.list ys] = some (.bool true) := by
  have e : ys = ys.map fun _ => .bool true := by
    rw [List.map_congr_left (g := id) (fun y m => (h y m).symm), List.map_id]
  rw [e]
  refine (all_map (h := fun _ => true)).trans ?_
  congr 2
  rw [List.all_eq_true]
  exact fun _ _ => rfl
local macro_rules | `(tactic| walk_at "g5") => `(tactic| ((try simp only [WO_seq, WO_set, WO_ret, WO_ife, WO_exp, WO_forr, WO_nop, WO_retn, WO_par, WO_if, WO_nx, WO_rt, WO_tst, W_bind, W_ok, W_some, W_none, W_lift, W_if, W_quiet, vs_var, vR_var, vs_non, vR_non, vs_bl, vR_bl, vs_int, vR_int, vs_str, vR_str, vs_glb, vR_glb, vs_scs, vR_scs, vs_tup, vR_tup, vs_lst, vR_lst, vs_dic, vR_dic, vs_bin, vR_bin, vs_neg, vR_neg, vs_not, vR_not, vs_and, vR_and, vs_or, vR_or, vs_cmp, vR_cmp, vs_cm2, vR_cm2, vs_isn, vR_isn, vs_nsn, vR_nsn, vs_ite, vs_idx, vR_idx, vs_tix, vR_tix, vs_sli, vR_sli, vs_rev, vR_rev, vs_call, vs_bi, vR_bi, vs_isi, vR_isi, vs_met, vR_met, vs_comp, vR_comp, vs_dcom, vR_dcom, vs_comp2, vR_comp2, vs_rng, vR_rng, vs_rn3, vR_rn3, vs_enu, vR_enu, vs_zip, vR_zip, vs_vals, vR_vals, vs_its, vR_its, vs_lof, vR_lof, vs_act, vR_act, vs_isx, vR_isx, vs_plc, vR_plc, vs_srt, vR_srt, vs_rv2, vR_rv2, vs_tof, vR_tof, vs_gix, vR_gix, vs_nil, vs_tpv, vs_scv, vs_lam, vR_call, vR_ite, gv_0, gv_s, ix_l0, ix_l1, ix_l2, ix_l3, ix_l4, ix_l5, ix_l6, ix_l7, ix_t0, ix_t1, ix_t2, ix_t3, ix_t4, ix_t5, ix_t6, ix_t7, st_l0, st_l1, st_l2, st_l3, st_l4, tr_b, tr_i, cm_eq, cm_ne, cm_lt, cm_gt, cm_le, cm_ge, bn_add, bn_sub, bi_int, bi_lenl, bi_lent, al_nil, al_cons, fx_i, fx_b, fx_s, fx_n, fx_l, fx_t, fx_d, mu_i, mu_b, mu_s, mu_n, mu_t, mu_l, mu_d, co_i, co_b, co_s, co_n, co_t, co_l, co_d, se_0, se_s, ex_some, Option.map_some, Option.bind_some, Bool.false_eq_true, if_false, if_true, decide_eq_true_eq, Bool.and_false, Bool.false_and, Bool.and_true, Bool.true_and, Bool.or_false, Bool.false_or, Ev.fresh, ownV, bd_ok, lift_some, part_t, part_f, test_t, test_f, as_i, isNil, blank, slotsP, isTy, List.any_cons, List.any_nil, Bool.not_true, Bool.not_false, List.map_cons, List.map_nil, List.cons_append, List.nil_append, List.replicate_succ, List.replicate_zero, Nat.reduceSub, and_self, and_true, true_and, Int.reduceSub, Int.reduceAdd, Int.reduceNeg, Int.reduceMul, Int.reduceLT, Int.reduceLE, decide_true, decide_false, not_true_eq_false, not_false_eq_true, Prod.mk.injEq, bn_mod, bn_fdiv', bn_mull, bn_mulr, bi_max3, bi_max2, bi_min2, bi_abs, bi_bool, cm_mem, cm_nmem, Int.reducePow, WO_app, own_eq, fl_0, fl_s, setD_eq, fz, retE, ev_var, ev_non, ev_bl, ev_int, ev_str, ev_glb, ev_tup, ev_lst, ev_dic, ev_bin, ev_neg, ev_not, ev_and, ev_or, ev_cmp, ev_cm2, ev_isn, ev_nsn, ev_ite, ev_idx, ev_tix, ev_scs, ev_sli, ev_rev, ev_call, ev_isi, ev_met, ev_gix, ev_lof, ev_tof, ev_rv2, ev_act, ev_isx, ev_plc, ev_rng, ev_rn3, ev_enu, ev_zip, ev_vals, ev_its, ev_comp, ev_comp2, ev_dcom, ev_srt, asg_nm, asg_tt, asg_tl, asgs_nil, asgs_cons, ev_bi, fx_nil, WO_stp, fr_1, fr_2, fr_3, fr_4, fr_5, fr_6, fr_7, fr_8, fr_9, fr_10, fr_11, fr_12, fr_13, fr_14, fr_15, fr_16, lfz_app, List.append_nil, WO_aug, WO_trya, WO_tryl, augD, bd_exc, gd_0, gd_s, cb_eq, cb_ne, WO_fnil, WO_fcons, *, gb0, gb1, gb2, gb3, gb4, gb5, gb6, gb7, ← List.map_take, ← List.map_drop, q13, tup_len, ixm, sl_take, sl_drop, is_ii, ne_eq, bi_tupl, bi_lstt, bi_intb, q_int, q_in, q_siz, q3, q4, q5, q6, q7, q8, q9, q10, q11, q12, q19, q20, q21, q22, bi_lent, bi_lenl, shut_cons, shut_nil, cs_eq]); repeat ((first | refine Wn_mk ?_ | refine Wf_mk ?_); try simp only [WO_seq, WO_set, WO_ret, WO_ife, WO_exp, WO_forr, WO_nop, WO_retn, WO_par, WO_if, WO_nx, WO_rt, WO_tst, W_bind, W_ok, W_some, W_none, W_lift, W_if, W_quiet, vs_var, vR_var, vs_non, vR_non, vs_bl, vR_bl, vs_int, vR_int, vs_str, vR_str, vs_glb, vR_glb, vs_scs, vR_scs, vs_tup, vR_tup, vs_lst, vR_lst, vs_dic, vR_dic, vs_bin, vR_bin, vs_neg, vR_neg, vs_not, vR_not, vs_and, vR_and, vs_or, vR_or, vs_cmp, vR_cmp, vs_cm2, vR_cm2, vs_isn, vR_isn, vs_nsn, vR_nsn, vs_ite, vs_idx, vR_idx, vs_tix, vR_tix, vs_sli, vR_sli, vs_rev, vR_rev, vs_call, vs_bi, vR_bi, vs_isi, vR_isi, vs_met, vR_met, vs_comp, vR_comp, vs_dcom, vR_dcom, vs_comp2, vR_comp2, vs_rng, vR_rng, vs_rn3, vR_rn3, vs_enu, vR_enu, vs_zip, vR_zip, vs_vals, vR_vals, vs_its, vR_its, vs_lof, vR_lof, vs_act, vR_act, vs_isx, vR_isx, vs_plc, vR_plc, vs_srt, vR_srt, vs_rv2, vR_rv2, vs_tof, vR_tof, vs_gix, vR_gix, vs_nil, vs_tpv, vs_scv, vs_lam, vR_call, vR_ite, gv_0, gv_s, ix_l0, ix_l1, ix_l2, ix_l3, ix_l4, ix_l5, ix_l6, ix_l7, ix_t0, ix_t1, ix_t2, ix_t3, ix_t4, ix_t5, ix_t6, ix_t7, st_l0, st_l1, st_l2, st_l3, st_l4, tr_b, tr_i, cm_eq, cm_ne, cm_lt, cm_gt, cm_le, cm_ge, bn_add, bn_sub, bi_int, bi_lenl, bi_lent, al_nil, al_cons, fx_i, fx_b, fx_s, fx_n, fx_l, fx_t, fx_d, mu_i, mu_b, mu_s, mu_n, mu_t, mu_l, mu_d, co_i, co_b, co_s, co_n, co_t, co_l, co_d, se_0, se_s, ex_some, Option.map_some, Option.bind_some, Bool.false_eq_true, if_false, if_true, decide_eq_true_eq, Bool.and_false, Bool.false_and, Bool.and_true, Bool.true_and, Bool.or_false, Bool.false_or, Ev.fresh, ownV, bd_ok, lift_some, part_t, part_f, test_t, test_f, as_i, isNil, blank, slotsP, isTy, List.any_cons, List.any_nil, Bool.not_true, Bool.not_false, List.map_cons, List.map_nil, List.cons_append, List.nil_append, List.replicate_succ, List.replicate_zero, Nat.reduceSub, and_self, and_true, true_and, Int.reduceSub, Int.reduceAdd, Int.reduceNeg, Int.reduceMul, Int.reduceLT, Int.reduceLE, decide_true, decide_false, not_true_eq_false, not_false_eq_true, Prod.mk.injEq, bn_mod, bn_fdiv', bn_mull, bn_mulr, bi_max3, bi_max2, bi_min2, bi_abs, bi_bool, cm_mem, cm_nmem, Int.reducePow, WO_app, own_eq, fl_0, fl_s, setD_eq, fz, retE, ev_var, ev_non, ev_bl, ev_int, ev_str, ev_glb, ev_tup, ev_lst, ev_dic, ev_bin, ev_neg, ev_not, ev_and, ev_or, ev_cmp, ev_cm2, ev_isn, ev_nsn, ev_ite, ev_idx, ev_tix, ev_scs, ev_sli, ev_rev, ev_call, ev_isi, ev_met, ev_gix, ev_lof, ev_tof, ev_rv2, ev_act, ev_isx, ev_plc, ev_rng, ev_rn3, ev_enu, ev_zip, ev_vals, ev_its, ev_comp, ev_comp2, ev_dcom, ev_srt, asg_nm, asg_tt, asg_tl, asgs_nil, asgs_cons, ev_bi, fx_nil, WO_stp, fr_1, fr_2, fr_3, fr_4, fr_5, fr_6, fr_7, fr_8, fr_9, fr_10, fr_11, fr_12, fr_13, fr_14, fr_15, fr_16, lfz_app, List.append_nil, WO_aug, WO_trya, WO_tryl, augD, bd_exc, gd_0, gd_s, cb_eq, cb_ne, WO_fnil, WO_fcons, *, gb0, gb1, gb2, gb3, gb4, gb5, gb6, gb7, ← List.map_take, ← List.map_drop, q13, tup_len, ixm, sl_take, sl_drop, is_ii, ne_eq, bi_tupl, bi_lstt, bi_intb, q_int, q_in, q_siz, q3, q4, q5, q6, q7, q8, q9, q10, q11, q12, q19, q20, q21, q22, bi_lent, bi_lenl, shut_cons, shut_nil, cs_eq])))
local macro_rules | `(tactic| walk_at "f1") => `(tactic| ((try simp only [WO_seq, WO_set, WO_ret, WO_ife, WO_exp, WO_forr, WO_nop, WO_retn, WO_par, WO_if, WO_nx, WO_rt, WO_tst, W_bind, W_ok, W_some, W_none, W_lift, W_if, W_quiet, vs_var, vR_var, vs_non, vR_non, vs_bl, vR_bl, vs_int, vR_int, vs_str, vR_str, vs_glb, vR_glb, vs_scs, vR_scs, vs_tup, vR_tup, vs_lst, vR_lst, vs_dic, vR_dic, vs_bin, vR_bin, vs_neg, vR_neg, vs_not, vR_not, vs_and, vR_and, vs_or, vR_or, vs_cmp, vR_cmp, vs_cm2, vR_cm2, vs_isn, vR_isn, vs_nsn, vR_nsn, vs_ite, vs_idx, vR_idx, vs_tix, vR_tix, vs_sli, vR_sli, vs_rev, vR_rev, vs_call, vs_bi, vR_bi, vs_isi, vR_isi, vs_met, vR_met, vs_comp, vR_comp, vs_dcom, vR_dcom, vs_comp2, vR_comp2, vs_rng, vR_rng, vs_rn3, vR_rn3, vs_enu, vR_enu, vs_zip, vR_zip, vs_vals, vR_vals, vs_its, vR_its, vs_lof, vR_lof, vs_act, vR_act, vs_isx, vR_isx, vs_plc, vR_plc, vs_srt, vR_srt, vs_rv2, vR_rv2, vs_tof, vR_tof, vs_gix, vR_gix, vs_nil, vs_tpv, vs_scv, vs_lam, vR_call, vR_ite, gv_0, gv_s, ix_l0, ix_l1, ix_l2, ix_l3, ix_l4, ix_l5, ix_l6, ix_l7, ix_t0, ix_t1, ix_t2, ix_t3, ix_t4, ix_t5, ix_t6, ix_t7, st_l0, st_l1, st_l2, st_l3, st_l4, tr_b, tr_i, cm_eq, cm_ne, cm_lt, cm_gt, cm_le, cm_ge, bn_add, bn_sub, bi_int, bi_lenl, bi_lent, al_nil, al_cons, fx_i, fx_b, fx_s, fx_n, fx_l, fx_t, fx_d, mu_i, mu_b, mu_s, mu_n, mu_t, mu_l, mu_d, co_i, co_b, co_s, co_n, co_t, co_l, co_d, se_0, se_s, ex_some, Option.map_some, Option.bind_some, Bool.false_eq_true, if_false, if_true, decide_eq_true_eq, Bool.and_false, Bool.false_and, Bool.and_true, Bool.true_and, Bool.or_false, Bool.false_or, Ev.fresh, ownV, bd_ok, lift_some, part_t, part_f, test_t, test_f, as_i, isNil, blank, slotsP, isTy, List.any_cons, List.any_nil, Bool.not_true, Bool.not_false, List.map_cons, List.map_nil, List.cons_append, List.nil_append, List.replicate_succ, List.replicate_zero, Nat.reduceSub, and_self, and_true, true_and, Int.reduceSub, Int.reduceAdd, Int.reduceNeg, Int.reduceMul, Int.reduceLT, Int.reduceLE, decide_true, decide_false, not_true_eq_false, not_false_eq_true, Prod.mk.injEq, bn_mod, bn_fdiv', bn_mull, bn_mulr, bi_max3, bi_max2, bi_min2, bi_abs, bi_bool, cm_mem, cm_nmem, Int.reducePow, WO_app, own_eq, fl_0, fl_s, setD_eq, fz, retE, ev_var, ev_non, ev_bl, ev_int, ev_str, ev_glb, ev_tup, ev_lst, ev_dic, ev_bin, ev_neg, ev_not, ev_and, ev_or, ev_cmp, ev_cm2, ev_isn, ev_nsn, ev_ite, ev_idx, ev_tix, ev_scs, ev_sli, ev_rev, ev_call, ev_isi, ev_met, ev_gix, ev_lof, ev_tof, ev_rv2, ev_act, ev_isx, ev_plc, ev_rng, ev_rn3, ev_enu, ev_zip, ev_vals, ev_its, ev_comp, ev_comp2, ev_dcom, ev_srt, asg_nm, asg_tt, asg_tl, asgs_nil, asgs_cons, ev_bi, fx_nil, WO_stp, fr_1, fr_2, fr_3, fr_4, fr_5, fr_6, fr_7, fr_8, fr_9, fr_10, fr_11, fr_12, fr_13, fr_14, fr_15, fr_16, lfz_app, List.append_nil, WO_aug, WO_trya, WO_tryl, augD, bd_exc, gd_0, gd_s, cb_eq, cb_ne, WO_fnil, WO_fcons, *, bd_exc, shut_cons, shut_nil]); repeat ((first | refine Wn_mk ?_ | refine Wf_mk ?_); try simp only [WO_seq, WO_set, WO_ret, WO_ife, WO_exp, WO_forr, WO_nop, WO_retn, WO_par, WO_if, WO_nx, WO_rt, WO_tst, W_bind, W_ok, W_some, W_none, W_lift, W_if, W_quiet, vs_var, vR_var, vs_non, vR_non, vs_bl, vR_bl, vs_int, vR_int, vs_str, vR_str, vs_glb, vR_glb, vs_scs, vR_scs, vs_tup, vR_tup, vs_lst, vR_lst, vs_dic, vR_dic, vs_bin, vR_bin, vs_neg, vR_neg, vs_not, vR_not, vs_and, vR_and, vs_or, vR_or, vs_cmp, vR_cmp, vs_cm2, vR_cm2, vs_isn, vR_isn, vs_nsn, vR_nsn, vs_ite, vs_idx, vR_idx, vs_tix, vR_tix, vs_sli, vR_sli, vs_rev, vR_rev, vs_call, vs_bi, vR_bi, vs_isi, vR_isi, vs_met, vR_met, vs_comp, vR_comp, vs_dcom, vR_dcom, vs_comp2, vR_comp2, vs_rng, vR_rng, vs_rn3, vR_rn3, vs_enu, vR_enu, vs_zip, vR_zip, vs_vals, vR_vals, vs_its, vR_its, vs_lof, vR_lof, vs_act, vR_act, vs_isx, vR_isx, vs_plc, vR_plc, vs_srt, vR_srt, vs_rv2, vR_rv2, vs_tof, vR_tof, vs_gix, vR_gix, vs_nil, vs_tpv, vs_scv, vs_lam, vR_call, vR_ite, gv_0, gv_s, ix_l0, ix_l1, ix_l2, ix_l3, ix_l4, ix_l5, ix_l6, ix_l7, ix_t0, ix_t1, ix_t2, ix_t3, ix_t4, ix_t5, ix_t6, ix_t7, st_l0, st_l1, st_l2, st_l3, st_l4, tr_b, tr_i, cm_eq, cm_ne, cm_lt, cm_gt, cm_le, cm_ge, bn_add, bn_sub, bi_int, bi_lenl, bi_lent, al_nil, al_cons, fx_i, fx_b, fx_s, fx_n, fx_l, fx_t, fx_d, mu_i, mu_b, mu_s, mu_n, mu_t, mu_l, mu_d, co_i, co_b, co_s, co_n, co_t, co_l, co_d, se_0, se_s, ex_some, Option.map_some, Option.bind_some, Bool.false_eq_true, if_false, if_true, decide_eq_true_eq, Bool.and_false, Bool.false_and, Bool.and_true, Bool.true_and, Bool.or_false, Bool.false_or, Ev.fresh, ownV, bd_ok, lift_some, part_t, part_f, test_t, test_f, as_i, isNil, blank, slotsP, isTy, List.any_cons, List.any_nil, Bool.not_true, Bool.not_false, List.map_cons, List.map_nil, List.cons_append, List.nil_append, List.replicate_succ, List.replicate_zero, Nat.reduceSub, and_self, and_true, true_and, Int.reduceSub, Int.reduceAdd, Int.reduceNeg, Int.reduceMul, Int.reduceLT, Int.reduceLE, decide_true, decide_false, not_true_eq_false, not_false_eq_true, Prod.mk.injEq, bn_mod, bn_fdiv', bn_mull, bn_mulr, bi_max3, bi_max2, bi_min2, bi_abs, bi_bool, cm_mem, cm_nmem, Int.reducePow, WO_app, own_eq, fl_0, fl_s, setD_eq, fz, retE, ev_var, ev_non, ev_bl, ev_int, ev_str, ev_glb, ev_tup, ev_lst, ev_dic, ev_bin, ev_neg, ev_not, ev_and, ev_or, ev_cmp, ev_cm2, ev_isn, ev_nsn, ev_ite, ev_idx, ev_tix, ev_scs, ev_sli, ev_rev, ev_call, ev_isi, ev_met, ev_gix, ev_lof, ev_tof, ev_rv2, ev_act, ev_isx, ev_plc, ev_rng, ev_rn3, ev_enu, ev_zip, ev_vals, ev_its, ev_comp, ev_comp2, ev_dcom, ev_srt, asg_nm, asg_tt, asg_tl, asgs_nil, asgs_cons, ev_bi, fx_nil, WO_stp, fr_1, fr_2, fr_3, fr_4, fr_5, fr_6, fr_7, fr_8, fr_9, fr_10, fr_11, fr_12, fr_13, fr_14, fr_15, fr_16, lfz_app, List.append_nil, WO_aug, WO_trya, WO_tryl, augD, bd_exc, gd_0, gd_s, cb_eq, cb_ne, WO_fnil, WO_fcons, *, bd_exc, shut_cons, shut_nil])))
theorem q25 {n : Nat} {t : Tp} (ht : TW t) : Gives ((G (n + 12)).cl 25 [.tp] t) fun x => x = .bool true := by
  refine cl_do (F := ⟨1, 9, b__law_line_right⟩) rfl rfl ?_
  unfold b__law_line_right
  walk_at "g4"
  refine (q23 ht).use fun x m t ht hx => ?_
  obtain ⟨ls, rfl, hls, l1, l2⟩ := hx
  walk_at "g4"
  refine ⟨_, wk_t (by have : line = 16777216 := rfl; rw [List.length_map]; omega), ?_⟩
  refine (mapT_tape (P := fun y => ∃ i, y = .int i ∧ 1 ≤ i ∧ i ≤ 5) _ _ ht (fun x m t ht => ?_)).mono fun ys t hy => ?_
  · unfold compF
    walk_at "g4"
    refine (pick _ 5 t (by decide) (by decide) ht).use fun x m t ht hx => ?_
    obtain ⟨i, rfl, i1, i2⟩ := hx
    walk_at "g4"
    exact ⟨1 + i, rfl, by omega, by omega⟩
  · obtain ⟨ht, hyl, hy⟩ := hy
    have hfs : ∃ fs, ys = fs.map .int ∧ IsF fs := by
      clear hyl
      induction ys with
      | nil => exact ⟨[], rfl, fun _ m => (by cases m)⟩
      | cons y r ih =>
        obtain ⟨i, rfl, i1, i2⟩ := hy _ List.mem_cons_self
        obtain ⟨fs, rfl, hf⟩ := ih fun z m => hy z (List.mem_cons_of_mem _ m)
        refine ⟨i :: fs, rfl, fun p m => ?_⟩
        rcases List.mem_cons.mp m with rfl | m
        · exact ⟨i1, i2⟩
        · exact hf p m
    obtain ⟨fs, rfl, hf⟩ := hfs
    have hl2 : ls.length = fs.length := by rw [List.length_map, List.length_map] at hyl; exact hyl.symm
    have hl : (fs.length : Int) = ls.length := by omega
    have l3 : (ls.length : Int) ≤ 1000 := by omega
    have l4 : (ls.length : Int) ≤ 24 := by omega
    have tpl : ∀ {a b : List PyData}, (a.length : Int) ≤ 100 → (b.length : Int) ≤ 100 → binD .add (.tuple a) (.tuple b) = some (.tuple (a ++ b)) := fun {a b} h1 h2 => bn_addt (by have : line = 16777216 := rfl; omega)
    by_cases hlen : 1 < (ls.length : Int)
    · walk_at "g5"
      refine (pick _ (ls.length - 1) t (by omega) (by omega) ht).use fun x m t ht hx => ?_
      obtain ⟨d, rfl, d1, d2⟩ := hx
      have k0 : 0 ≤ 1 + d := by omega
      have k1 : 1 + d < (ls.length : Int) := by omega
      have k2 : 1 + d < (fs.length : Int) := by omega
      have k3 : 0 ≤ 1 + d - 1 := by omega
      have k4 : 1 + d - 1 < (ls.length : Int) := by omega
      have k5 : 1 + d - 1 < (fs.length : Int) := by omega
      have part := tot_part (k := 1 + d) hl2 (by omega) k1
      have cA : ∀ n t, (G (n + 6)).cl 13 [.d (.tuple ((ls.take (1 + d).toNat).map .int)), .d (.tuple ((fs.take (1 + d).toNat).map .int))] t = .ok (.int (tot (ls.take (1 + d).toNat) (fs.take (1 + d).toNat)), false) t := fun n t => q13 (mem_take hls _) (mem_take hf _) (by simp only [List.length_map, List.length_take, List.length_drop, List.length_append, List.length_cons, List.length_nil]; omega) (by simp only [List.length_map, List.length_take, List.length_drop, List.length_append, List.length_cons, List.length_nil]; omega) (by simp only [List.length_map, List.length_take, List.length_drop, List.length_append, List.length_cons, List.length_nil]; omega) (by simp only [List.length_map, List.length_take, List.length_drop, List.length_append, List.length_cons, List.length_nil]; omega)
      have cB : ∀ n t, (G (n + 6)).cl 13 [.d (.tuple ((ls.drop (1 + d).toNat).map .int)), .d (.tuple ((fs.drop (1 + d).toNat).map .int))] t = .ok (.int (tot (ls.drop (1 + d).toNat) (fs.drop (1 + d).toNat)), false) t := fun n t => q13 (mem_drop hls _) (mem_drop hf _) (by simp only [List.length_map, List.length_take, List.length_drop, List.length_append, List.length_cons, List.length_nil]; omega) (by simp only [List.length_map, List.length_take, List.length_drop, List.length_append, List.length_cons, List.length_nil]; omega) (by simp only [List.length_map, List.length_take, List.length_drop, List.length_append, List.length_cons, List.length_nil]; omega) (by simp only [List.length_map, List.length_take, List.length_drop, List.length_append, List.length_cons, List.length_nil]; omega)
      have cC : ∀ n t, (G (n + 4)).cl 10 [.d (.int (gt ls (1 + d - 1))), .d (.int (gt fs (1 + d - 1))), .d (.int (gt ls (1 + d))), .d (.int (gt fs (1 + d)))] t = .ok (.int (rc (gt ls (1 + d - 1)) (gt fs (1 + d - 1)) (gt ls (1 + d)) (gt fs (1 + d))), true) t := fun n t => q10 (hls _ (gt_mem k3 k4)).1 (hls _ (gt_mem k3 k4)).2 (hls _ (gt_mem k0 k1)).1 (hls _ (gt_mem k0 k1)).2 (hf _ (gt_mem k3 k5)).1 (hf _ (gt_mem k3 k5)).2 (hf _ (gt_mem k0 k2)).1 (hf _ (gt_mem k0 k2)).2
      walk_at "g5"
      refine (pick _ ls.length t (by omega) (by omega) ht).use fun x m t ht hx => ?_
      obtain ⟨sp, rfl, s1, s2⟩ := hx
      have s3 : 0 ≤ sp + 1 := by omega
      walk_at "g5"
      refine ⟨_, tpl (by simp only [List.length_map, List.length_take, List.length_drop, List.length_append, List.length_cons, List.length_nil]; omega) (by simp only [List.length_map, List.length_take, List.length_drop, List.length_append, List.length_cons, List.length_nil]; omega), _, tpl (by simp only [List.length_map, List.length_take, List.length_drop, List.length_append, List.length_cons, List.length_nil]; omega) (by simp only [List.length_map, List.length_take, List.length_drop, List.length_append, List.length_cons, List.length_nil]; omega), _, tpl (by simp only [List.length_map, List.length_take, List.length_drop, List.length_append, List.length_cons, List.length_nil]; omega) (by simp only [List.length_map, List.length_take, List.length_drop, List.length_append, List.length_cons, List.length_nil]; omega), ?_⟩
      walk_at "g5"
      refine ⟨_, tpl (by simp only [List.length_map, List.length_take, List.length_drop, List.length_append, List.length_cons, List.length_nil]; omega) (by simp only [List.length_map, List.length_take, List.length_drop, List.length_append, List.length_cons, List.length_nil]; omega), _, tpl (by simp only [List.length_map, List.length_take, List.length_drop, List.length_append, List.length_cons, List.length_nil]; omega) (by simp only [List.length_map, List.length_take, List.length_drop, List.length_append, List.length_cons, List.length_nil]; omega), _, tpl (by simp only [List.length_map, List.length_take, List.length_drop, List.length_append, List.length_cons, List.length_nil]; omega) (by simp only [List.length_map, List.length_take, List.length_drop, List.length_append, List.length_cons, List.length_nil]; omega), _, tpl (by simp only [List.length_map, List.length_take, List.length_drop, List.length_append, List.length_cons, List.length_nil]; omega) (by simp only [List.length_map, List.length_take, List.length_drop, List.length_append, List.length_cons, List.length_nil]; omega), _, bn_addl (by exact Nat.le_of_ble_eq_true rfl), ?_⟩
      walk_at "g5"
      refine (any _ _ t (by exact List.cons_ne_nil _ _) (by exact Nat.le_of_ble_eq_true rfl) ht).use fun x m t ht hx => ?_
      have nf := odds hl2 l1 s1 s2 x hx
      have y : ∀ k t, (G (k + 6)).cl 13 [.d (.tuple (ls.map .int)), .d x] t = .exc 2 [] t := fun k t => cost_no hls nf l1 l4
      clear nf hx
      walk_at "g5"
      refine word_W (n := n + 9) (tg (k := 2) (tag := "!NoFingers") (by decide +kernel)) (by walk_at "f1") fun m => ?_
      walk_at "g5"
    · walk_at "g5"
      refine (pick _ ls.length t (by omega) (by omega) ht).use fun x m t ht hx => ?_
      obtain ⟨sp, rfl, s1, s2⟩ := hx
      have s3 : 0 ≤ sp + 1 := by omega
      walk_at "g5"
      refine ⟨_, tpl (by simp only [List.length_map, List.length_take, List.length_drop, List.length_append, List.length_cons, List.length_nil]; omega) (by simp only [List.length_map, List.length_take, List.length_drop, List.length_append, List.length_cons, List.length_nil]; omega), _, tpl (by simp only [List.length_map, List.length_take, List.length_drop, List.length_append, List.length_cons, List.length_nil]; omega) (by simp only [List.length_map, List.length_take, List.length_drop, List.length_append, List.length_cons, List.length_nil]; omega), _, tpl (by simp only [List.length_map, List.length_take, List.length_drop, List.length_append, List.length_cons, List.length_nil]; omega) (by simp only [List.length_map, List.length_take, List.length_drop, List.length_append, List.length_cons, List.length_nil]; omega), ?_⟩
      walk_at "g5"
      refine ⟨_, tpl (by simp only [List.length_map, List.length_take, List.length_drop, List.length_append, List.length_cons, List.length_nil]; omega) (by simp only [List.length_map, List.length_take, List.length_drop, List.length_append, List.length_cons, List.length_nil]; omega), _, tpl (by simp only [List.length_map, List.length_take, List.length_drop, List.length_append, List.length_cons, List.length_nil]; omega) (by simp only [List.length_map, List.length_take, List.length_drop, List.length_append, List.length_cons, List.length_nil]; omega), _, tpl (by simp only [List.length_map, List.length_take, List.length_drop, List.length_append, List.length_cons, List.length_nil]; omega) (by simp only [List.length_map, List.length_take, List.length_drop, List.length_append, List.length_cons, List.length_nil]; omega), _, tpl (by simp only [List.length_map, List.length_take, List.length_drop, List.length_append, List.length_cons, List.length_nil]; omega) (by simp only [List.length_map, List.length_take, List.length_drop, List.length_append, List.length_cons, List.length_nil]; omega), _, bn_addl (by exact Nat.le_of_ble_eq_true rfl), ?_⟩
      walk_at "g5"
      refine (any _ _ t (by exact List.cons_ne_nil _ _) (by exact Nat.le_of_ble_eq_true rfl) ht).use fun x m t ht hx => ?_
      have nf := odds hl2 l1 s1 s2 x hx
      have y : ∀ k t, (G (k + 6)).cl 13 [.d (.tuple (ls.map .int)), .d x] t = .exc 2 [] t := fun k t => cost_no hls nf l1 l4
      clear nf hx
      walk_at "g5"
      refine word_W (n := n + 9) (tg (k := 2) (tag := "!NoFingers") (by decide +kernel)) (by walk_at "f1") fun m => ?_
      walk_at "g5"

local macro_rules | `(tactic| walk_at "g6") => `(tactic| ((try simp only [WO_seq, WO_set, WO_ret, WO_ife, WO_exp, WO_forr, WO_nop, WO_retn, WO_par, WO_if, WO_nx, WO_rt, WO_tst, W_bind, W_ok, W_some, W_none, W_lift, W_if, W_quiet, vs_var, vR_var, vs_non, vR_non, vs_bl, vR_bl, vs_int, vR_int, vs_str, vR_str, vs_glb, vR_glb, vs_scs, vR_scs, vs_tup, vR_tup, vs_lst, vR_lst, vs_dic, vR_dic, vs_bin, vR_bin, vs_neg, vR_neg, vs_not, vR_not, vs_and, vR_and, vs_or, vR_or, vs_cmp, vR_cmp, vs_cm2, vR_cm2, vs_isn, vR_isn, vs_nsn, vR_nsn, vs_ite, vs_idx, vR_idx, vs_tix, vR_tix, vs_sli, vR_sli, vs_rev, vR_rev, vs_call, vs_bi, vR_bi, vs_isi, vR_isi, vs_met, vR_met, vs_comp, vR_comp, vs_dcom, vR_dcom, vs_comp2, vR_comp2, vs_rng, vR_rng, vs_rn3, vR_rn3, vs_enu, vR_enu, vs_zip, vR_zip, vs_vals, vR_vals, vs_its, vR_its, vs_lof, vR_lof, vs_act, vR_act, vs_isx, vR_isx, vs_plc, vR_plc, vs_srt, vR_srt, vs_rv2, vR_rv2, vs_tof, vR_tof, vs_gix, vR_gix, vs_nil, vs_tpv, vs_scv, vs_lam, vR_call, vR_ite, gv_0, gv_s, ix_l0, ix_l1, ix_l2, ix_l3, ix_l4, ix_l5, ix_l6, ix_l7, ix_t0, ix_t1, ix_t2, ix_t3, ix_t4, ix_t5, ix_t6, ix_t7, st_l0, st_l1, st_l2, st_l3, st_l4, tr_b, tr_i, cm_eq, cm_ne, cm_lt, cm_gt, cm_le, cm_ge, bn_add, bn_sub, bi_int, bi_lenl, bi_lent, al_nil, al_cons, fx_i, fx_b, fx_s, fx_n, fx_l, fx_t, fx_d, mu_i, mu_b, mu_s, mu_n, mu_t, mu_l, mu_d, co_i, co_b, co_s, co_n, co_t, co_l, co_d, se_0, se_s, ex_some, Option.map_some, Option.bind_some, Bool.false_eq_true, if_false, if_true, decide_eq_true_eq, Bool.and_false, Bool.false_and, Bool.and_true, Bool.true_and, Bool.or_false, Bool.false_or, Ev.fresh, ownV, bd_ok, lift_some, part_t, part_f, test_t, test_f, as_i, isNil, blank, slotsP, isTy, List.any_cons, List.any_nil, Bool.not_true, Bool.not_false, List.map_cons, List.map_nil, List.cons_append, List.nil_append, List.replicate_succ, List.replicate_zero, Nat.reduceSub, and_self, and_true, true_and, Int.reduceSub, Int.reduceAdd, Int.reduceNeg, Int.reduceMul, Int.reduceLT, Int.reduceLE, decide_true, decide_false, not_true_eq_false, not_false_eq_true, Prod.mk.injEq, bn_mod, bn_fdiv', bn_mull, bn_mulr, bi_max3, bi_max2, bi_min2, bi_abs, bi_bool, cm_mem, cm_nmem, Int.reducePow, WO_app, own_eq, fl_0, fl_s, setD_eq, fz, retE, ev_var, ev_non, ev_bl, ev_int, ev_str, ev_glb, ev_tup, ev_lst, ev_dic, ev_bin, ev_neg, ev_not, ev_and, ev_or, ev_cmp, ev_cm2, ev_isn, ev_nsn, ev_ite, ev_idx, ev_tix, ev_scs, ev_sli, ev_rev, ev_call, ev_isi, ev_met, ev_gix, ev_lof, ev_tof, ev_rv2, ev_act, ev_isx, ev_plc, ev_rng, ev_rn3, ev_enu, ev_zip, ev_vals, ev_its, ev_comp, ev_comp2, ev_dcom, ev_srt, asg_nm, asg_tt, asg_tl, asgs_nil, asgs_cons, ev_bi, fx_nil, WO_stp, fr_1, fr_2, fr_3, fr_4, fr_5, fr_6, fr_7, fr_8, fr_9, fr_10, fr_11, fr_12, fr_13, fr_14, fr_15, fr_16, lfz_app, List.append_nil, WO_aug, WO_trya, WO_tryl, augD, bd_exc, gd_0, gd_s, cb_eq, cb_ne, WO_fnil, WO_fcons, *, q26, all_tt, bn_addl, line_n, List.length_cons, List.length_nil, Nat.reduceAdd, Nat.reduceLT]); repeat ((first | refine Wn_mk ?_ | refine Wf_mk ?_); try simp only [WO_seq, WO_set, WO_ret, WO_ife, WO_exp, WO_forr, WO_nop, WO_retn, WO_par, WO_if, WO_nx, WO_rt, WO_tst, W_bind, W_ok, W_some, W_none, W_lift, W_if, W_quiet, vs_var, vR_var, vs_non, vR_non, vs_bl, vR_bl, vs_int, vR_int, vs_str, vR_str, vs_glb, vR_glb, vs_scs, vR_scs, vs_tup, vR_tup, vs_lst, vR_lst, vs_dic, vR_dic, vs_bin, vR_bin, vs_neg, vR_neg, vs_not, vR_not, vs_and, vR_and, vs_or, vR_or, vs_cmp, vR_cmp, vs_cm2, vR_cm2, vs_isn, vR_isn, vs_nsn, vR_nsn, vs_ite, vs_idx, vR_idx, vs_tix, vR_tix, vs_sli, vR_sli, vs_rev, vR_rev, vs_call, vs_bi, vR_bi, vs_isi, vR_isi, vs_met, vR_met, vs_comp, vR_comp, vs_dcom, vR_dcom, vs_comp2, vR_comp2, vs_rng, vR_rng, vs_rn3, vR_rn3, vs_enu, vR_enu, vs_zip, vR_zip, vs_vals, vR_vals, vs_its, vR_its, vs_lof, vR_lof, vs_act, vR_act, vs_isx, vR_isx, vs_plc, vR_plc, vs_srt, vR_srt, vs_rv2, vR_rv2, vs_tof, vR_tof, vs_gix, vR_gix, vs_nil, vs_tpv, vs_scv, vs_lam, vR_call, vR_ite, gv_0, gv_s, ix_l0, ix_l1, ix_l2, ix_l3, ix_l4, ix_l5, ix_l6, ix_l7, ix_t0, ix_t1, ix_t2, ix_t3, ix_t4, ix_t5, ix_t6, ix_t7, st_l0, st_l1, st_l2, st_l3, st_l4, tr_b, tr_i, cm_eq, cm_ne, cm_lt, cm_gt, cm_le, cm_ge, bn_add, bn_sub, bi_int, bi_lenl, bi_lent, al_nil, al_cons, fx_i, fx_b, fx_s, fx_n, fx_l, fx_t, fx_d, mu_i, mu_b, mu_s, mu_n, mu_t, mu_l, mu_d, co_i, co_b, co_s, co_n, co_t, co_l, co_d, se_0, se_s, ex_some, Option.map_some, Option.bind_some, Bool.false_eq_true, if_false, if_true, decide_eq_true_eq, Bool.and_false, Bool.false_and, Bool.and_true, Bool.true_and, Bool.or_false, Bool.false_or, Ev.fresh, ownV, bd_ok, lift_some, part_t, part_f, test_t, test_f, as_i, isNil, blank, slotsP, isTy, List.any_cons, List.any_nil, Bool.not_true, Bool.not_false, List.map_cons, List.map_nil, List.cons_append, List.nil_append, List.replicate_succ, List.replicate_zero, Nat.reduceSub, and_self, and_true, true_and, Int.reduceSub, Int.reduceAdd, Int.reduceNeg, Int.reduceMul, Int.reduceLT, Int.reduceLE, decide_true, decide_false, not_true_eq_false, not_false_eq_true, Prod.mk.injEq, bn_mod, bn_fdiv', bn_mull, bn_mulr, bi_max3, bi_max2, bi_min2, bi_abs, bi_bool, cm_mem, cm_nmem, Int.reducePow, WO_app, own_eq, fl_0, fl_s, setD_eq, fz, retE, ev_var, ev_non, ev_bl, ev_int, ev_str, ev_glb, ev_tup, ev_lst, ev_dic, ev_bin, ev_neg, ev_not, ev_and, ev_or, ev_cmp, ev_cm2, ev_isn, ev_nsn, ev_ite, ev_idx, ev_tix, ev_scs, ev_sli, ev_rev, ev_call, ev_isi, ev_met, ev_gix, ev_lof, ev_tof, ev_rv2, ev_act, ev_isx, ev_plc, ev_rng, ev_rn3, ev_enu, ev_zip, ev_vals, ev_its, ev_comp, ev_comp2, ev_dcom, ev_srt, asg_nm, asg_tt, asg_tl, asgs_nil, asgs_cons, ev_bi, fx_nil, WO_stp, fr_1, fr_2, fr_3, fr_4, fr_5, fr_6, fr_7, fr_8, fr_9, fr_10, fr_11, fr_12, fr_13, fr_14, fr_15, fr_16, lfz_app, List.append_nil, WO_aug, WO_trya, WO_tryl, augD, bd_exc, gd_0, gd_s, cb_eq, cb_ne, WO_fnil, WO_fcons, *, q26, all_tt, bn_addl, line_n, List.length_cons, List.length_nil, Nat.reduceAdd, Nat.reduceLT])))
theorem law_ok (n : Nat) (ns : List Int) : ∃ m t, lawEv (G (n + 14)) L.law.F ns = .rt (.bool true) m t := by
  have h : WO (evS (G (n + 14)) b_law ⟨[some (.scr ns), none, none, none], [false, false, false, false], none⟩) (fun _ => False) (fun x _ _ => x = .bool true) := by
    unfold b_law
    have z0 : ∀ t, (G (n + 14)).cl 10 [.d (.int 60), .d (.int 1), .d (.int 62), .d (.int 2)] t = .ok (.int 0, true) t := fun t => (q10 (by decide) (by decide) (by decide) (by decide) (by decide) (by decide) (by decide) (by decide)).trans (by congr 2)
    have z1 : ∀ t, (G (n + 14)).cl 10 [.d (.int 60), .d (.int 3), .d (.int 65), .d (.int 1)] t = .ok (.int 6, true) t := fun t => (q10 (by decide) (by decide) (by decide) (by decide) (by decide) (by decide) (by decide) (by decide)).trans (by congr 2)
    have z2 : ∀ t, (G (n + 14)).cl 10 [.d (.int 60), .d (.int 2), .d (.int 61), .d (.int 1)] t = .ok (.int 3, true) t := fun t => (q10 (by decide) (by decide) (by decide) (by decide) (by decide) (by decide) (by decide) (by decide)).trans (by congr 2)
    have z3 : ∀ t, (G (n + 14)).cl 10 [.d (.int 64), .d (.int 2), .d (.int 60), .d (.int 3)] t = .ok (.int 10, true) t := fun t => (q10 (by decide) (by decide) (by decide) (by decide) (by decide) (by decide) (by decide) (by decide)).trans (by congr 2)
    have z4 : ∀ t, (G (n + 14)).cl 10 [.d (.int 60), .d (.int 2), .d (.int 67), .d (.int 3)] t = .ok (.int 4, true) t := fun t => (q10 (by decide) (by decide) (by decide) (by decide) (by decide) (by decide) (by decide) (by decide)).trans (by congr 2)
    have z5 : ∀ t, (G (n + 14)).cl 10 [.d (.int 60), .d (.int 4), .d (.int 60), .d (.int 4)] t = .ok (.int 0, true) t := fun t => (q10 (by decide) (by decide) (by decide) (by decide) (by decide) (by decide) (by decide) (by decide)).trans (by congr 2)
    have z6 : ∀ t, (G (n + 14)).cl 10 [.d (.int 60), .d (.int 4), .d (.int 60), .d (.int 1)] t = .ok (.int 2, true) t := fun t => (q10 (by decide) (by decide) (by decide) (by decide) (by decide) (by decide) (by decide) (by decide)).trans (by congr 2)
    have z7 : ∀ t, (G (n + 14)).cl 10 [.d (.int 60), .d (.int 2), .d (.int 62), .d (.int 2)] t = .ok (.int 8, true) t := fun t => (q10 (by decide) (by decide) (by decide) (by decide) (by decide) (by decide) (by decide) (by decide)).trans (by congr 2)
    have z9 : ∀ t, (G (n + 14)).cl 13 [.d (.tuple [.int 61, .int 62]), .d (.tuple [.int 1, .int 2])] t = .ok (.int 1, false) t := fun t => cl_tabF (n0 := 6) hc (by omega) (by decide +kernel) t
    have z10 : ∀ t, (G (n + 14)).cl 17 [.d (.list [.int 0, .int 6, .int 3, .int 10, .int 4, .int 0, .int 2, .int 8, .int 1]), .d (.list [.int 0, .int 6, .int 3, .int 10, .int 4, .int 0, .int 2, .int 8, .int 1])] t = .ok (.bool true, false) t := fun t => cl_tabF (n0 := 4) hc (by omega) (by decide +kernel) t
    walk_at "g6"
    refine (tape (n + 13) ns).mono fun x t hx => ?_
    obtain ⟨y, m⟩ := x
    obtain ⟨rfl, hm, ts, hy, ht⟩ := hx
    have hm : m = true := hm
    have hy : y = .list ts := hy
    subst hm hy
    walk_at "g6"
    refine ⟨_, bn_addl (by exact Nat.le_of_ble_eq_true rfl), ?_⟩
    walk_at "g6"
    refine ⟨_, bn_addl (by exact Nat.le_of_ble_eq_true rfl), ?_⟩
    walk_at "g6"
    refine ⟨_, if_pos ⟨by decide, by decide⟩, _, wk_l (by rw [rngD_len]; decide), ?_⟩
    refine (mapT_tape (P := fun y => y = .bool true) _ _ ht (fun x m t ht => ?_)).mono fun ys t hy => ?_
    · unfold compF
      walk_at "g6"
      refine (q24 ht).use fun x m t ht hx => ?_
      subst hx
      walk_at "g6"
    · obtain ⟨ht, -, hy⟩ := hy
      refine ⟨_, all_tt hy, ?_⟩
      walk_at "g6"
      refine (q26 ht).use fun x m t ht hx => ?_
      subst hx
      walk_at "g6"
      refine ⟨_, if_pos ⟨by decide, by decide⟩, _, wk_l (by rw [rngD_len]; decide), ?_⟩
      refine (mapT_tape (P := fun y => y = .bool true) _ _ ht (fun x m t ht => ?_)).mono fun ys t hy => ?_
      · unfold compF
        walk_at "g6"
        refine (q25 ht).use fun x m t ht hx => ?_
        subst hx
        walk_at "g6"
      · obtain ⟨ht, -, hy⟩ := hy
        exact ⟨_, all_tt hy, rfl⟩
  have e : lawEv (G (n + 14)) L.law.F ns = evS (G (n + 14)) b_law ⟨[some (.scr ns), none, none, none], [false, false, false, false], none⟩ := rfl
  rw [e]
  cases q : evS (G (n + 14)) b_law ⟨[some (.scr ns), none, none, none], [false, false, false, false], none⟩ with
  | rt x m t => rw [q] at h; have h : x = .bool true := h; rw [h]; exact ⟨m, t, rfl⟩
  | nx s => rw [q] at h; exact h.elim
  | ex c p s => rw [q] at h; exact h.elim
  | bad => rw [q] at h; exact h.elim
end K76
theorem PySem.Challenge.cw_tonehouse_k76_whole_costs_of_fingers_on_holds : PySem.Challenge.rw_tonehouse_k76_whole_costs_of_fingers_on.Holds := by
  exact K76.holds_of (lv := 14) ⟨rfl, by decide, by decide⟩ fun ns _ _ => K76.law_ok 0 ns

